import PyProof.Rows.All
import Wide.All
import OpenK.AllK
import Wide.FinOn
import HandS.ForMost
import HandS.ForExc
import HandS.Flow
import HandS.Wide
import HandS.Gcd
import HandS.IsInst
import HandS.Zip
import HandS.Rev
import HandS.NoneIn
import HandS.Style
import HandS.Conv
import HandS.ExcField
import HandS.ExcInit
import HandS.Defaults
import HandS.RaiseMore
import HandS.Dict
import KE.KEqDict
import HandS.ExcOwn
import HandS.HeadEnd
import PyProof.ReprRoads
import KE.KExcSuper
import HandS.Head0
import HandS.Head1
import HandS.Head2
import HandS.Head3
import HandS.HeadHook1
import HandS.HeadHook2
import PySem.Challenge.RW_oddsquares_k02_points_and_vectors
set_option Elab.async false
set_option linter.all false
set_option maxRecDepth 100000
set_option maxHeartbeats 0
/-! Data, their places, a small language and what it means: the plain side -/
namespace DE
open PySem L2
/-- plain data; glb: what the module's name stands for; jug: the one list that is written in place -/
inductive D where
  | non | bl (b : Bool) | int (i : Int) | str (x : Str) | ty (n : String) | glb (x : Str) | jug | dic
  /-- a list that the caller or the module holds (read alone) -/
  | klst (xs : List D)
  | tup (xs : List D) | lst (xs : List D)
  | ins (C : Str) (fs : List (Str × D))
abbrev S := List D
/-- an error that flies: its class by name, its fields -/
structure Ex where
  cls : Str
  fs : List (Str × D)
inductive Res (α : Type) where
  | ok (a : α) (st : S) | err (e : Ex) (st : S) | stuck
abbrev M (α : Type) := S → Res α
def M.pure {α : Type} (a : α) : M α := fun st => .ok a st
def Res.bind {α β : Type} (r : Res α) (k : α → M β) : Res β := match r with
  | .ok a st => k a st
  | .err e st => .err e st
  | .stuck => .stuck
def M.bind {α β : Type} (m : M α) (k : α → M β) : M β := fun st => (m st).bind k
instance : Monad M where
  pure := M.pure
  bind := M.bind
def lift {α : Type} : Option α → M α
  | some a => M.pure a
  | none => fun _ => .stuck
/-- a slot -/
inductive Sl where
  | non | val (d : D) | own (xs : List D)
abbrev Env := List Sl
inductive BOp where | add | sub | mul | fdiv | mod | pow | shl
inductive COp where | eq | ne | lt | le | gt | ge | isN | notN | isin | notin
inductive BI where | repr | str | len | abs | int | bool | gcd | tuple | list | sum | all | any | max | min
inductive IK where | val | rng | enum | zip | rev
inductive Tg where
  | nm (i : Nat) | tp (ts : List Tg)
/-- what isinstance asks for: a built-in type, a class of the module -/
inductive Ty where | bt (n : String) | own (x : Str)
inductive C where
  | var (i : Nat) | cst (d : D)
  | bin (o : BOp) (a b : C) | neg (a : C) | not (a : C)
  | cmp (o : COp) (a b : C) | chain (o p : COp) (a b c : C)
  | and (a b : C) | or (a b : C) | ite (c a b : C)
  | tup (es : List C) | lst (es : List C)
  | idx (a i : C) | slc (a : C) (lo hi : Option C)
  | call (f : Str) (es : List C) | bi (f : BI) (es : List C) | isi (a : C) (ts : List Ty)
  | meth (m : Str) (o : C) (es : List C) | fld (o : C) (f : Str)
  | comp (elt : C) (tg : Tg) (k : IK) (its : List C) (ifs : List C) (vs : List Nat)
/-- what a handler tells of the error -/
inductive HE where | fld (f : Str) | cst (d : D) | tup (es : List HE)
inductive CS where
  | pass | expr (c : C)
  | set (t : Tg) (c : C) | par (is : List Nat) (cs : List C)
  | own (i : Nat) (c : C) | frz (is : List Nat) | app (i : Nat) (c : C) | put (i : Nat) (k v : C) | jput (j k v : C)
  | aug (i : Nat) (o : BOp) (c : C)
  | ret (c : C) | retN
  | ite (c : C) (a b : List CS)
  | loop (tg : Tg) (k : IK) (its : List C) (body : List CS)
  | brk | cont
  | raise (cls : Str) (es : List C)
  | trys (body : List CS) (hs : List (Str × Nat × Nat × HE))
/-! ### what the operations give -/
def isInt : D → Option Int
  | .int i => some i
  | _ => none
def allInt : List D → Option (List Int)
  | [] => some []
  | .int i :: r => (allInt r).map (i :: ·)
  | _ :: _ => none
def allBl : List D → Option (List Bool)
  | [] => some []
  | .bl i :: r => (allBl r).map (i :: ·)
  | _ :: _ => none
def mulOk (i j : Int) : Bool := decide (i.natAbs < 2 ^ 64) || (decide (j.natAbs < 2 ^ 64) || decide (i.natAbs.log2 + j.natAbs.log2 < 1000000))
def divOk (j : Int) : Bool := decide (j ≠ 0) && decide (j.natAbs.log2 < 9000)
def powOk (i j : Int) : Bool := decide (0 ≤ j) && (decide (j ≤ 1000000) && decide (i.natAbs < 2 ^ 64))
def binD : BOp → D → D → Option D
  | .add, .int i, .int j => some (.int (i + j))
  | .sub, .int i, .int j => some (.int (i - j))
  | .sub, .bl a, .bl b => some (.int ((if a then 1 else 0) - (if b then 1 else 0)))
  | .mul, .int i, .int j => if mulOk i j then some (.int (i * j)) else none
  | .fdiv, .int i, .int j => if divOk j then some (.int (i.fdiv j)) else none
  | .mod, .int i, .int j => if decide (j ≠ 0) then some (.int (i.fmod j)) else none
  | .pow, .int i, .int j => if powOk i j then some (.int (i ^ j.toNat)) else none
  | .shl, .int i, .int j => if powOk i j then some (.int (i * 2 ^ j.toNat)) else none
  | .add, .lst xs, .lst ys => if decide (xs.length + ys.length ≤ 1000000) then some (.lst (xs ++ ys)) else none
  | .add, .tup xs, .tup ys => if decide (xs.length + ys.length ≤ 1000000) && !xs.isEmpty && !ys.isEmpty then some (.tup (xs ++ ys)) else none
  | .add, .str x, .str y => if decide (x.length + y.length ≤ 1000000) then some (.str (x ++ y)) else none
  | _, _, _ => none
/-- a op= b in place: of ints alone -/
def augD : BOp → D → D → Option D
  | .add, .int i, .int j => some (.int (i + j))
  | .sub, .int i, .int j => some (.int (i - j))
  | _, _, _ => none
def negD : D → Option D
  | .int i => some (.int (-i))
  | _ => none
def truD : D → Option Bool
  | .non => some false
  | .bl b => some b
  | .int i => some (i != 0)
  | .str x => if decide (x.length ≤ 1000000) then some ((x.length : Int) != 0) else none
  | .lst xs => some (!xs.isEmpty)
  | .tup xs => some (!xs.isEmpty)
  | _ => none
mutual
def toPy : D → Option PyData
  | .non => some .none
  | .bl b => some (.bool b)
  | .int i => some (.int i)
  | .str x => some (.str x)
  | .tup xs => (toPys xs).map .tuple
  | .lst xs => (toPys xs).map .list
  | _ => none
def toPys : List D → Option (List PyData)
  | [] => some []
  | x :: r => (toPy x).bind fun a => (toPys r).map (a :: ·)
end
def eqD (x y : D) : Option Bool := (toPy x).bind fun a => (toPy y).bind fun b => if SeqAt.shaped a && SeqAt.shaped b then some (PyData.eqv a b) else none
/-- a dict beside a tuple -/
def isDT : D → D → Bool
  | .dic, .tup _ => true
  | _, _ => false
def cmpD : COp → D → D → Option Bool
  | .lt, .int i, .int j => some (decide (i < j))
  | .le, .int i, .int j => some (decide (i ≤ j))
  | .gt, .int i, .int j => some (decide (j < i))
  | .ge, .int i, .int j => some (decide (j ≤ i))
  | .isN, x, .non => some (match x with | .non => true | _ => false)
  | .notN, x, .non => some (match x with | .non => false | _ => true)
  | .isN, .bl a, .bl b => some (decide (a = b))
  | .notN, .bl a, .bl b => some (!decide (a = b))
  | .eq, x, y => if isDT x y then some false else eqD x y
  | .ne, x, y => (eqD x y).map (!·)
  | .isin, .str i, .str j => some (!(Builtin.Str.occurrences j i 0 j.length 1).isEmpty)
  | .notin, .str i, .str j => some (!(!(Builtin.Str.occurrences j i 0 j.length 1).isEmpty))
  | _, _, _ => none
def idxN (n : Nat) (i : Int) : Option Nat := ixN n i
def idxD : D → D → Option D
  | .lst xs, .int i => (ixN xs.length i).bind fun j => xs[j]?
  | .tup xs, .int i => (ixN xs.length i).bind fun j => xs[j]?
  | .str z, .int i => if decide (z.length ≤ 1000000) then ((ixN z.cps.toList.length i).bind fun j => z.cps.toList[j]?).map fun c => .str ⟨#[c]⟩ else none
  | _, _ => none
def slcL (xs : List D) (lo hi : Option Int) : List D := (xs.drop (HT.sIx xs.length 0 lo)).take (HT.sIx xs.length xs.length hi - HT.sIx xs.length 0 lo)
def slcD : D → Option Int → Option Int → Option D
  | .lst xs, lo, hi => some (.lst (slcL xs lo hi))
  | .klst xs, lo, hi => some (.lst (slcL xs lo hi))
  | .tup xs, lo, hi => if decide (HT.sIx xs.length 0 lo = 0) && decide (HT.sIx xs.length xs.length hi = xs.length) then none else some (.tup (slcL xs lo hi))
  | _, _, _ => none
def rngOk (i : Int) : Bool := decide (-(2 ^ 62) ≤ i) && decide (i < 2 ^ 62)
def rngL (lo : Int) (n : Nat) : List D := (List.range n).map fun k => .int (lo + (k : Nat))
def enumL : Nat → List D → List D
  | _, [] => []
  | i, x :: r => .tup [.int (i : Nat), x] :: enumL (i + 1) r
def zipL : List D → List D → List D
  | x :: xs, y :: ys => .tup [x, y] :: zipL xs ys
  | _, _ => []
def itemsD : IK → List D → Option (List D)
  | .val, [.lst xs] => some xs
  | .val, [.klst xs] => some xs
  | .val, [.tup xs] => some xs
  | .val, [.str x] => some (x.cps.toList.map fun c => .str ⟨#[c]⟩)
  | .rng, [.int n] => if rngOk n then some (rngL 0 n.toNat) else none
  | .rng, [.int i, .int j] => if rngOk i && rngOk j then some (rngL i (j - i).toNat) else none
  | .enum, [.lst xs] => some (enumL 0 xs)
  | .zip, [.lst xs, .lst ys] => some (zipL xs ys)
  | .rev, [.lst xs] => some xs.reverse
  | _, _ => none
def lenD : D → Option Int
  | .lst xs => some (xs.length : Nat)
  | .klst xs => some (xs.length : Nat)
  | .tup xs => some (xs.length : Nat)
  | .str x => if decide (x.length ≤ 1000000) then some (x.length : Nat) else none
  | _ => none
/-- what repr tells of rows -/
def reprC (d : D) : Option D := (toPy d).bind fun p => if p.showable && (SeqAt.shaped p && (decide (p.depth ≤ 60) && decide (p.shown.length ≤ 1000000))) then some (.str p.shown) else none
def biD : BI → List D → Option D
  | .len, [d] => (lenD d).map .int
  | .repr, [.int i] => if decide (i.natAbs.log2 < 1920) then some (.str (toString i)) else none
  | .repr, [.bl b] => some (.str (if b then "True" else "False"))
  | .repr, [.tup xs] => reprC (.tup xs)
  | .repr, [.lst xs] => reprC (.lst xs)
  | .str, [.int i] => if decide (i.natAbs.log2 < 1920) then some (.str (toString i)) else none
  | .str, [.str x] => some (.str x)
  | .abs, [.int i] => some (.int (if i < 0 then -i else i))
  | .int, [.int i] => some (.int i)
  | .int, [.bl b] => some (.int (if b then 1 else 0))
  | .bool, [.int i] => some (.bl (i != 0))
  | .bool, [.bl b] => some (.bl b)
  | .gcd, [.int a, .int b] => some (.int ((Nat.gcd a.natAbs b.natAbs : Nat) : Int))
  | .tuple, [.lst xs] => some (.tup xs)
  | .tuple, [.tup xs] => some (.tup xs)
  | .list, [.lst xs] => some (.lst xs)
  | .list, [.tup xs] => some (.lst xs)
  | .sum, [.lst xs] => (allInt xs).map fun ns => .int ns.sum
  | .all, [.lst xs] => (allBl xs).map fun bs => .bl (bs.all id)
  | .any, [.lst xs] => (allBl xs).map fun bs => .bl (bs.any id)
  | .max, [.int i, .int j] => some (.int (if j > i then j else i))
  | .min, [.int i, .int j] => some (.int (if j < i then j else i))
  | _, _ => none
def tyD : D → Option String
  | .non => some "NoneType"
  | .bl _ => some "bool"
  | .int _ => some "int"
  | .str _ => some "str"
  | .tup _ => some "tuple"
  | .lst _ => some "list"
  | .dic => some "dict"
  | _ => none
/-- isinstance against one built-in type -/
def isTy (t n : String) : Bool := t == n || (t == "bool" && n == "int")
def tyKnown : List String := ["int", "bool", "str", "tuple", "list", "dict"]
def tyAll : List Ty → Option (List String)
  | [] => some []
  | .bt n :: r => if tyKnown.contains n then (tyAll r).map (n :: ·) else none
  | .own _ :: _ => none
def isiD (d : D) (ts : List Ty) : Option Bool := (tyD d).bind fun t => (tyAll ts).map fun ns => ns.any fun n => isTy t n
/-! ### evaluation -/
structure Gam where
  fn : Str → List D → M D
  /-- the fields of an error's class -/
  ex : Str → Option (List Str)
  /-- whether an error of the first class is one of the second -/
  sub : Str → Str → Option Bool
mutual
def assign : Tg → D → Env → Option Env
  | .nm i, d, ρ => if i < ρ.length then some (ρ.set i (.val d)) else none
  | .tp ts, .tup xs, ρ => assigns ts xs ρ
  | .tp ts, .lst xs, ρ => assigns ts xs ρ
  | .tp _, _, _ => none
def assigns : List Tg → List D → Env → Option Env
  | [], [], ρ => some ρ
  | t :: ts, d :: ds, ρ => (assign t d ρ).bind fun ρ' => assigns ts ds ρ'
  | _, _, _ => none
end
def wipeE (ρ : Env) : List Nat → Env
  | [] => ρ
  | v :: vs => (wipeE ρ vs).set v .non
def getVar (ρ : Env) (i : Nat) : Option D := match ρ[i]? with
  | some (.val d) => some d
  | _ => none
def idxM : D → D → M D
  | .jug, .int i => fun st => match (ixN st.length i).bind fun j => st[j]? with
    | some d => .ok d st
    | none => .stuck
  | a, i => lift (idxD a i)
def consO (o : Option D) (ys : List D) : List D := match o with
  | some y => y :: ys
  | none => ys
def compL (step : D → M (Option D)) : List D → M (List D)
  | [] => M.pure []
  | x :: r => M.bind (step x) fun o => M.bind (compL step r) fun ys => M.pure (consO o ys)
/-- an error does not leave a comprehension (as far as is shown here) -/
def noErr {α : Type} (m : M α) : M α := fun st => match m st with
  | .err _ _ => .stuck
  | r => r
def few (xs : List D) : Option (List D) := if decide (xs.length ≤ 1000000) then some xs else none
/-- one turn of a comprehension -/
def compT (tg : Tg) (vs : List Nat) (ρ : Env) (ft : Env → M Bool) (fe : Env → M D) (x : D) : M (Option D) := M.bind (lift (assign tg x (wipeE ρ vs))) fun ρ2 => M.bind (ft ρ2) fun ok => match ok with
  | true => M.bind (fe ρ2) fun y => M.pure (some y)
  | false => M.pure none
mutual
def ev (Γ : Gam) : C → Env → M D
  | .var i, ρ => lift (getVar ρ i)
  | .cst d, _ => M.pure d
  | .bin o a b, ρ => M.bind (ev Γ a ρ) fun x => M.bind (ev Γ b ρ) fun y => lift (binD o x y)
  | .neg a, ρ => M.bind (ev Γ a ρ) fun x => lift (negD x)
  | .not a, ρ => M.bind (ev Γ a ρ) fun x => lift ((truD x).map fun b => .bl (!b))
  | .cmp o a b, ρ => M.bind (ev Γ a ρ) fun x => M.bind (ev Γ b ρ) fun y => lift ((cmpD o x y).map .bl)
  | .chain o p a b c, ρ => M.bind (ev Γ a ρ) fun x => M.bind (ev Γ b ρ) fun y => M.bind (lift (cmpD o x y)) fun k => match k with
    | true => M.bind (ev Γ c ρ) fun z => lift ((cmpD p y z).map .bl)
    | false => M.pure (.bl false)
  | .and a b, ρ => M.bind (ev Γ a ρ) fun x => M.bind (lift (truD x)) fun k => match k with
    | true => ev Γ b ρ
    | false => M.pure x
  | .or a b, ρ => M.bind (ev Γ a ρ) fun x => M.bind (lift (truD x)) fun k => match k with
    | true => M.pure x
    | false => ev Γ b ρ
  | .ite c a b, ρ => M.bind (ev Γ c ρ) fun x => M.bind (lift (truD x)) fun k => match k with
    | true => ev Γ a ρ
    | false => ev Γ b ρ
  | .tup es, ρ => M.bind (evs Γ es ρ) fun ds => M.pure (.tup ds)
  | .lst es, ρ => M.bind (evs Γ es ρ) fun ds => M.pure (.lst ds)
  | .idx a i, ρ => M.bind (ev Γ a ρ) fun x => M.bind (ev Γ i ρ) fun y => idxM x y
  | .slc a lo hi, ρ => M.bind (ev Γ a ρ) fun x => M.bind (evo Γ lo ρ) fun l => M.bind (evo Γ hi ρ) fun h => lift (slcD x l h)
  | .call f es, ρ => M.bind (evs Γ es ρ) fun ds => Γ.fn f ds
  | .bi f es, ρ => M.bind (evs Γ es ρ) fun ds => lift (biD f ds)
  | .isi a ts, ρ => M.bind (ev Γ a ρ) fun x => lift ((isiD x ts).map .bl)
  | .meth m o es, ρ => M.bind (ev Γ o ρ) fun x => M.bind (evs Γ es ρ) fun ds => Γ.fn m (x :: ds)
  | .fld o f, ρ => M.bind (ev Γ o ρ) fun x => lift (match x with | .ins _ fs => fs.lookup f | _ => none)
  | .comp elt tg k its ifs vs, ρ => M.bind (M.bind (evs Γ its ρ) fun ds => lift (itemsD k ds)) fun items =>
    M.bind (lift (few items)) fun items => M.bind (compL (fun x => noErr (compT tg vs ρ (evt Γ ifs) (ev Γ elt) x)) items) fun ys => M.pure (.lst ys)
def evs (Γ : Gam) : List C → Env → M (List D)
  | [], _ => M.pure []
  | e :: es, ρ => M.bind (ev Γ e ρ) fun x => M.bind (evs Γ es ρ) fun xs => M.pure (x :: xs)
def evo (Γ : Gam) : Option C → Env → M (Option Int)
  | none, _ => M.pure none
  | some e, ρ => M.bind (ev Γ e ρ) fun x => lift ((isInt x).map some)
/-- tests, all of them, as far as they are True -/
def evt (Γ : Gam) : List C → Env → M Bool
  | [], _ => M.pure true
  | e :: es, ρ => M.bind (ev Γ e ρ) fun x => M.bind (lift (truD x)) fun k => match k with
    | true => evt Γ es ρ
    | false => M.pure false
end
/-- what a statement comes to -/
inductive RS where
  | nx (ρ : Env) (st : S) | ret (d : D) (st : S) | brk (ρ : Env) (st : S) | cont (ρ : Env) (st : S) | err (e : Ex) (ρ : Env) (st : S) | stuck
def bindS {α : Type} (r : Res α) (ρ : Env) (k : α → S → RS) : RS := match r with
  | .ok a st => k a st
  | .err e st => .err e ρ st
  | .stuck => .stuck
def ofO {α : Type} (o : Option α) (k : α → RS) : RS := match o with
  | some a => k a
  | none => .stuck
def forL (step : D → Env → S → RS) : List D → Env → S → RS
  | [], ρ, st => .nx ρ st
  | x :: r, ρ, st => match step x ρ st with
    | .nx ρ' st' => forL step r ρ' st'
    | .cont ρ' st' => forL step r ρ' st'
    | .brk ρ' st' => .nx ρ' st'
    | .ret d st' => .ret d st'
    | .err e ρ' st' => .err e ρ' st'
    | .stuck => .stuck
def freeze (ρ : Env) (i : Nat) : Env := match ρ[i]? with
  | some (.own xs) => ρ.set i (.val (.lst xs))
  | _ => ρ
def getOwn (ρ : Env) (i : Nat) : Option (List D) := match ρ[i]? with
  | some (.own xs) => some xs
  | _ => none
def setAll : List Nat → List D → Env → Option Env
  | [], [], ρ => some ρ
  | i :: is, d :: ds, ρ => if i < ρ.length then setAll is ds (ρ.set i (.val d)) else none
  | _, _, _ => none
mutual
def evH (e : Ex) : HE → Option D
  | .fld f => e.fs.lookup f
  | .cst d => some d
  | .tup es => (evHs e es).map .tup
def evHs (e : Ex) : List HE → Option (List D)
  | [] => some []
  | x :: r => (evH e x).bind fun a => (evHs e r).map (a :: ·)
end
def handle (Γ : Gam) (e : Ex) (ρ : Env) (st : S) : List (Str × Nat × Nat × HE) → RS
  | [] => .err e ρ st
  | (c, n, i, h) :: r => match Γ.sub e.cls c with
    | some true => (match evH e h with
      | some d => if n < ρ.length then (if i < ρ.length then .nx ((ρ.set i (.val d)).set n .non) st else .stuck) else .stuck
      | none => .stuck)
    | some false => handle Γ e ρ st r
    | none => .stuck
def xFields : List Str → List D → Option (List (Str × D))
  | [], [] => some []
  | f :: fs, d :: ds => (xFields fs ds).map ((f, d) :: ·)
  | _, _ => none
mutual
def evS (Γ : Gam) : CS → Env → S → RS
  | .pass, ρ, st => .nx ρ st
  | .expr c, ρ, st => bindS (ev Γ c ρ st) ρ fun _ st' => .nx ρ st'
  | .set t c, ρ, st => bindS (ev Γ c ρ st) ρ fun d st' => ofO (assign t d ρ) fun ρ' => .nx ρ' st'
  | .par is cs, ρ, st => bindS (evs Γ cs ρ st) ρ fun ds st' => ofO (setAll is ds ρ) fun ρ' => .nx ρ' st'
  | .own i c, ρ, st => bindS (ev Γ c ρ st) ρ fun d st' => match d with
    | .lst xs => if i < ρ.length then .nx (ρ.set i (.own xs)) st' else .stuck
    | _ => .stuck
  | .frz is, ρ, st => .nx (is.foldl freeze ρ) st
  | .app i c, ρ, st => ofO (getOwn ρ i) fun xs => bindS (ev Γ c ρ st) ρ fun d st' => if xs.length < 1000000 then .nx (ρ.set i (.own (xs ++ [d]))) st' else .stuck
  | .put i k v, ρ, st => bindS (ev Γ v ρ st) ρ fun d st' => ofO (getOwn ρ i) fun xs => bindS (ev Γ k ρ st') ρ fun ix st'' => ofO (isInt ix) fun n => ofO (ixN xs.length n) fun j => .nx (ρ.set i (.own (xs.set j d))) st''
  | .jput j k v, ρ, st => bindS (ev Γ v ρ st) ρ fun d st1 => bindS (ev Γ j ρ st1) ρ fun o st2 => bindS (ev Γ k ρ st2) ρ fun ix st3 => match o with
    | .jug => ofO (isInt ix) fun n => ofO (ixN st3.length n) fun m => .nx ρ (st3.set m d)
    | _ => .stuck
  | .aug i o c, ρ, st => ofO (getVar ρ i) fun x => bindS (ev Γ c ρ st) ρ fun y st' => ofO (augD o x y) fun z => .nx (ρ.set i (.val z)) st'
  | .ret c, ρ, st => bindS (ev Γ c ρ st) ρ fun d st' => .ret d st'
  | .retN, _, st => .ret .non st
  | .ite c a b, ρ, st => bindS (ev Γ c ρ st) ρ fun x st' => ofO (truD x) fun k => match k with
    | true => evSs Γ a ρ st'
    | false => evSs Γ b ρ st'
  | .loop tg k its body, ρ, st => bindS (evs Γ its ρ st) ρ fun ds st' => ofO (itemsD k ds) fun items =>
    forL (fun x ρ1 st1 => ofO (assign tg x ρ1) fun ρ2 => evSs Γ body ρ2 st1) items ρ st'
  | .brk, ρ, st => .brk ρ st
  | .cont, ρ, st => .cont ρ st
  | .raise cls es, ρ, st => bindS (evs Γ es ρ st) ρ fun ds st' => ofO ((Γ.ex cls).bind fun fs => xFields fs ds) fun fs => .err ⟨cls, fs⟩ ρ st'
  | .trys body hs, ρ, st => match evSs Γ body ρ st with
    | .err e ρ' st' => handle Γ e ρ' st' hs
    | .nx ρ' st' => .nx ρ' st'
    | .ret d st' => .ret d st'
    | .brk ρ' st' => .brk ρ' st'
    | .cont ρ' st' => .cont ρ' st'
    | .stuck => .stuck
def evSs (Γ : Gam) : List CS → Env → S → RS
  | [], ρ, st => .nx ρ st
  | c :: cs, ρ, st => match evS Γ c ρ st with
    | .nx ρ' st' => evSs Γ cs ρ' st'
    | .ret d st' => .ret d st'
    | .brk ρ' st' => .brk ρ' st'
    | .cont ρ' st' => .cont ρ' st'
    | .err e ρ' st' => .err e ρ' st'
    | .stuck => .stuck
end
/-- a def: its arguments fill the first slots -/
def runF (Γ : Gam) (n : Nat) (body : List CS) (ds : List D) : M D := fun st =>
  match evSs Γ body (ds.map .val ++ List.replicate (n - ds.length) .non) st with
  | .nx _ st' => .ok .non st'
  | .ret d st' => .ok d st'
  | .err e _ st' => .err e st'
  | _ => .stuck
end DE
/-! Data in the heap -/
namespace DE
open PySem L2
abbrev MG := Str → Option Value
section
variable (K : PySem.W.Frag) (mg : MG) (J : Option Addr)
mutual
/-- v stands for d in the ground G -/
inductive Rep (G : Hp) : D → V → Prop
  | non : Rep G .non .non
  | bl (b : Bool) : Rep G (.bl b) (.bl b)
  | int (i : Int) : Rep G (.int i) (.int i)
  | str (x : Str) : Rep G (.str x) (.str x)
  | ty (n : String) : Rep G (.ty n) (.ty n)
  | glb {x : Str} {a : Addr} : mg x = some (.ref a) → Rep G (.glb x) (.ref a)
  | jug {a : Addr} : J = some a → Rep G .jug (.ref a)
  | dic {a : Addr} {kvs : List (Key × V)} : G a = some (.dK kvs) → Rep G .dic (.ref a)
  | tup {a : Addr} {xs : List D} {vs : List V} : SqT K G a vs → Reps G xs vs → Rep G (.tup xs) (.ref a)
  | lst {a : Addr} {xs : List D} {vs : List V} : Rd G a (.lst vs) → Reps G xs vs → Rep G (.lst xs) (.ref a)
  | klst {a : Addr} {xs : List D} {vs : List V} : SqL K G a vs → Reps G xs vs → Rep G (.klst xs) (.ref a)
  | ins {Cn : Str} {C a dx : Addr} {fs : List (Str × D)} {vs : List (Str × V)} : mg Cn = some (.ref C) → G a = some (.ins C dx vs) → RepF G fs vs → Rep G (.ins Cn fs) (.ref a)
inductive Reps (G : Hp) : List D → List V → Prop
  | nil : Reps G [] []
  | cons {d : D} {v : V} {ds : List D} {vs : List V} : Rep G d v → Reps G ds vs → Reps G (d :: ds) (v :: vs)
inductive RepF (G : Hp) : List (Str × D) → List (Str × V) → Prop
  | nil : RepF G [] []
  | cons {f : Str} {d : D} {v : V} {ds : List (Str × D)} {vs : List (Str × V)} : Rep G d v → RepF G ds vs → RepF G ((f, d) :: ds) ((f, v) :: vs)
end
end
section
variable {K : PySem.W.Frag} {mg : MG} {J : Option Addr} {G G' : Hp}
theorem sameR {a : Addr} {u : HO} (e : Same G G') (h : Rd G a u) : Rd G' a u := by
  rcases h with h | ⟨o, h⟩
  · exact .inl (e _ _ h)
  · exact .inr ⟨o, e _ _ h⟩
theorem sameL {a : Addr} {xs : List V} (e : Same G G') (h : SqL K G a xs) : SqL K G' a xs := by
  rcases h with h | h
  · exact .inl (sameR e h)
  · exact .inr h
theorem sameT {a : Addr} {xs : List V} (e : Same G G') (h : SqT K G a xs) : SqT K G' a xs := by
  rcases h with (h | ⟨o, h⟩) | h
  · exact .inl (.inl (e _ _ h))
  · exact .inl (.inr ⟨o, e _ _ h⟩)
  · exact .inr h
mutual
theorem Rep.mono (e : Same G G') : ∀ {d : D} {v : V}, Rep K mg J G d v → Rep K mg J G' d v
  | _, _, .non => .non
  | _, _, .bl b => .bl b
  | _, _, .int b => .int b
  | _, _, .str b => .str b
  | _, _, .ty b => .ty b
  | _, _, .glb h => .glb h
  | _, _, .jug h => .jug h
  | _, _, .dic h => .dic (e _ _ h)
  | _, _, .tup h r => .tup (sameT e h) (Reps.mono e r)
  | _, _, .lst h r => .lst (sameR e h) (Reps.mono e r)
  | _, _, .klst h r => .klst (sameL e h) (Reps.mono e r)
  | _, _, .ins h g r => .ins h (e _ _ g) (RepF.mono e r)
theorem Reps.mono (e : Same G G') : ∀ {d : List D} {v : List V}, Reps K mg J G d v → Reps K mg J G' d v
  | _, _, .nil => .nil
  | _, _, .cons a b => .cons (Rep.mono e a) (Reps.mono e b)
theorem RepF.mono (e : Same G G') : ∀ {d : List (Str × D)} {v : List (Str × V)}, RepF K mg J G d v → RepF K mg J G' d v
  | _, _, .nil => .nil
  | _, _, .cons a b => .cons (Rep.mono e a) (RepF.mono e b)
end
theorem Reps.length : ∀ {ds : List D} {vs : List V}, Reps K mg J G ds vs → ds.length = vs.length
  | _, _, .nil => rfl
  | _, _, .cons _ b => congrArg Nat.succ (Reps.length b)
theorem Reps.get : ∀ {ds : List D} {vs : List V} {i : Nat} {d : D}, Reps K mg J G ds vs → ds[i]? = some d → ∃ v, vs[i]? = some v ∧ Rep K mg J G d v
  | _, _, _, _, .nil, e => by simp at e
  | _, _, 0, _, .cons a _, e => by simp at e; subst e; exact ⟨_, rfl, a⟩
  | _, _, i + 1, d, .cons _ b, e => by
    obtain ⟨v, h1, h2⟩ := Reps.get (i := i) (d := d) b (by simpa using e)
    exact ⟨v, by simpa using h1, h2⟩
theorem Reps.getv : ∀ {ds : List D} {vs : List V} {i : Nat} {v : V}, Reps K mg J G ds vs → vs[i]? = some v → ∃ d, ds[i]? = some d ∧ Rep K mg J G d v
  | _, _, _, _, .nil, e => by simp at e
  | _, _, 0, _, .cons a _, e => by simp at e; subst e; exact ⟨_, rfl, a⟩
  | _, _, i + 1, d, .cons _ b, e => by
    obtain ⟨v, h1, h2⟩ := Reps.getv (i := i) (v := d) b (by simpa using e)
    exact ⟨v, by simpa using h1, h2⟩
theorem Reps.append : ∀ {ds es : List D} {vs ws : List V}, Reps K mg J G ds vs → Reps K mg J G es ws → Reps K mg J G (ds ++ es) (vs ++ ws)
  | _, _, _, _, .nil, h => h
  | _, _, _, _, .cons a b, h => .cons a (Reps.append b h)
theorem Reps.drop : ∀ {ds : List D} {vs : List V} (n : Nat), Reps K mg J G ds vs → Reps K mg J G (ds.drop n) (vs.drop n)
  | _, _, 0, h => h
  | _, _, _ + 1, .nil => .nil
  | _, _, n + 1, .cons _ b => Reps.drop n b
theorem Reps.take : ∀ {ds : List D} {vs : List V} (n : Nat), Reps K mg J G ds vs → Reps K mg J G (ds.take n) (vs.take n)
  | _, _, 0, _ => .nil
  | _, _, _ + 1, .nil => .nil
  | _, _, n + 1, .cons a b => .cons a (Reps.take n b)
theorem Reps.set {d : D} {v : V} (r : Rep K mg J G d v) : ∀ {ds : List D} {vs : List V} (n : Nat), Reps K mg J G ds vs → Reps K mg J G (ds.set n d) (vs.set n v)
  | _, _, _, .nil => .nil
  | _, _, 0, .cons _ b => .cons r b
  | _, _, n + 1, .cons a b => .cons a (Reps.set r n b)
theorem Reps.reverse : ∀ {ds : List D} {vs : List V}, Reps K mg J G ds vs → Reps K mg J G ds.reverse vs.reverse
  | _, _, .nil => .nil
  | _, _, .cons a b => by
    rw [List.reverse_cons, List.reverse_cons]
    exact (Reps.reverse b).append (.cons a .nil)
theorem RepF.lookup : ∀ {ds : List (Str × D)} {vs : List (Str × V)} {f : Str} {d : D}, RepF K mg J G ds vs → ds.lookup f = some d → ∃ v, vs.lookup f = some v ∧ Rep K mg J G d v
  | _, _, _, _, .nil, e => by cases e
  | _, _, f, d, .cons (f := g) a b, e => by
    rw [List.lookup_cons] at e ⊢
    cases h : f == g with
    | true =>
      rw [h] at e
      cases e
      exact ⟨_, rfl, a⟩
    | false =>
      rw [h] at e
      exact RepF.lookup b e
/-! ### how worlds follow one another -/
/-- G the ground (what does not change), H the heap -/
structure Ext (J : Option Addr) (G H G' H' : Hp) : Prop where
  le : Same G' H'
  gg : Same G G'
  hh : ∀ a o, H a = some o → J ≠ some a → H' a = some o
  hj : ∀ a o, H a = some o → ∃ o', H' a = some o'
  fr : ∀ a o, G a = none → G' a = some o → H a = none
theorem Ext.refl {H : Hp} (h : Same G H) : Ext J G H G H :=
  ⟨h, fun _ _ e => e, fun _ _ e _ => e, fun _ _ e => ⟨_, e⟩, fun a o e e' => by rw [e] at e'; cases e'⟩
theorem Ext.trans {G1 G2 H H1 H2 : Hp} (x : Ext J G H G1 H1) (y : Ext J G1 H1 G2 H2) : Ext J G H G2 H2 where
  le := y.le
  gg := fun a o e => y.gg a o (x.gg a o e)
  hh := fun a o e n => y.hh a o (x.hh a o e n) n
  hj := fun a o e => by
    obtain ⟨o', e'⟩ := x.hj a o e
    exact y.hj a o' e'
  fr := fun a o e e' => by
    cases h1 : G1 a with
    | some u => exact x.fr a u e h1
    | none =>
      have z := y.fr a o h1 e'
      cases h : H a with
      | none => rfl
      | some u =>
        obtain ⟨o', q⟩ := x.hj a u h
        rw [z] at q
        cases q
theorem Same.upd {H : Hp} {p : Addr} {o : HO} (h : H p = none) : Same H (L2.upd H p o) := fun b u e => by rw [upd_ne (ne_of_none e h)]; exact e
theorem Same.upd2 {H : Hp} {p : Addr} {o : HO} (e : Same G H) : Same (L2.upd G p o) (L2.upd H p o) := fun b u q => by
  by_cases hb : b = p
  · subst hb; rw [upd_same] at q ⊢; exact q
  · rw [upd_ne hb] at q ⊢; exact e b u q
theorem free_of {H : Hp} {p : Addr} (e : Same G H) (h : H p = none) : G p = none := e.free h
/-- a new object in the ground -/
theorem Ext.new {H : Hp} {p : Addr} {o : HO} (e : Same G H) (h : H p = none) : Ext J G H (L2.upd G p o) (L2.upd H p o) where
  le := Same.upd2 e
  gg := Same.upd (free_of e h)
  hh := fun a u q _ => Same.upd h a u q
  hj := fun a u q => ⟨u, Same.upd h a u q⟩
  fr := fun a u q q' => by
    by_cases ha : a = p
    · rw [ha]; exact h
    · rw [upd_ne ha, q] at q'; cases q'
/-- a new object, not in the ground -/
theorem Ext.lay {H : Hp} {p : Addr} {o : HO} (e : Same G H) (h : H p = none) : Ext J G H G (L2.upd H p o) where
  le := fun a u q => Same.upd h a u (e a u q)
  gg := fun _ _ q => q
  hh := fun a u q _ => Same.upd h a u q
  hj := fun a u q => ⟨u, Same.upd h a u q⟩
  fr := fun a u q q' => by rw [q] at q'; cases q'
/-- it joins the ground -/
theorem Ext.join {H : Hp} {p : Addr} {o : HO} (e : Same G H) (h : H p = some o) : Same (L2.upd G p o) H := fun b u q => by
  by_cases hb : b = p
  · subst hb; rw [upd_same] at q; cases q; exact h
  · rw [upd_ne hb] at q; exact e b u q
/-- the list that is written in place -/
def JOk (K : PySem.W.Frag) (mg : MG) (J : Option Addr) (G H : Hp) (st : S) : Prop := match J with
  | none => st = []
  | some a => G a = none ∧ ∃ vs, H a = some (.lst vs) ∧ Reps K mg (some a) G st vs
/-- .. is as it was -/
theorem JOk.keep {H G' H' : Hp} {st : S} (j : JOk K mg J G H st) (x : Ext J G H G' H') (s : Same H H') : JOk K mg J G' H' st := by
  cases J with
  | none => exact j
  | some a =>
    obtain ⟨n, vs, h, r⟩ := j
    refine ⟨?_, vs, s _ _ h, r.mono x.gg⟩
    cases q : G' a with
    | none => rfl
    | some o =>
      have := x.fr a o n q
      rw [h] at this
      cases this
end
end DE
/-! Expressions: their value by the plain side -/
namespace DE
open PySem PySem.Spec PyProof.Rows L2
/-- an error as the heap has it -/
def XRep (K : PySem.W.Frag) (mg : MG) (J : Option Addr) (e : Ex) (cls : Value) (dd : Option Addr) (G H : Hp) : Prop :=
  ∃ (C d : Addr) (fs : List (Str × V)), mg e.cls = some (.ref C) ∧ cls = .ref C ∧ dd = some d ∧ H d = some (.xd fs) ∧ RepF K mg J G e.fs fs
def Post {α β : Type} (K : PySem.W.Frag) (mg : MG) (J : Option Addr) (G H : Hp) (σ : L2.St) (W : WX) (Rp : Hp → α → β → Prop) (Q : β → Hp → Prop) : Res α → Prop
  | .ok a st => ∀ (b : β) (G' H' : Hp), Ext J G H G' H' → JOk K mg J G' H' st → Rp G' a b → Q b H'
  | .err e st => ∀ (cls : Value) (dd : Option Addr) (G' H' : Hp), Ext J G H G' H' → JOk K mg J G' H' st → XRep K mg J e cls dd G' H' → W cls dd σ H'
  | .stuck => False
/-- slots -/
def SlOk (K : PySem.W.Frag) (mg : MG) (J : Option Addr) (G H : Hp) : Sl → Option (Option V) → Prop
  | .non, _ => True
  | .val d, o => ∃ v, o = some (some v) ∧ Rep K mg J G d v
  | .own xs, o => ∃ (a : Addr) (vs : List V), o = some (some (V.ref a)) ∧ H a = some (.lst vs) ∧ G a = none ∧ J ≠ some a ∧ Reps K mg J G xs vs
structure SRel (K : PySem.W.Frag) (mg : MG) (J : Option Addr) (σ : L2.St) (H : Hp) (ρ : Env) (G : Hp) : Prop where
  len : σ.length = ρ.length
  at_ : ∀ (i : Nat) (s : Sl), ρ[i]? = some s → SlOk K mg J G H s σ[i]?
  inj : ∀ (i j : Nat) (xs ys : List D) (a : Addr), ρ[i]? = some (.own xs) → ρ[j]? = some (.own ys) → σ[i]? = some (some (.ref a)) → σ[j]? = some (some (.ref a)) → i = j
section
variable {K : PySem.W.Frag} {mg : MG} {J : Option Addr} {G H G1 H1 : Hp} {σ : L2.St} {ρ : Env} {W : WX}
theorem SlOk.mono {s : Sl} {o : Option (Option V)} (h : SlOk K mg J G H s o) (x : Ext J G H G1 H1) : SlOk K mg J G1 H1 s o := by
  cases s with
  | non => exact True.intro
  | val d =>
    obtain ⟨v, e, r⟩ := h
    exact ⟨v, e, r.mono x.gg⟩
  | own xs =>
    obtain ⟨a, vs, e, h1, h2, h3, r⟩ := h
    refine ⟨a, vs, e, x.hh _ _ h1 h3, ?_, h3, r.mono x.gg⟩
    cases q : G1 a with
    | none => rfl
    | some o =>
      have := x.fr a o h2 q
      rw [h1] at this
      cases this
theorem SRel.mono (s : SRel K mg J σ H ρ G) (x : Ext J G H G1 H1) : SRel K mg J σ H1 ρ G1 := ⟨s.len, fun i sl e => (s.at_ i sl e).mono x, s.inj⟩
theorem SRel.get (s : SRel K mg J σ H ρ G) {i : Nat} {d : D} (h : getVar ρ i = some d) : ∃ v, σ[i]? = some (some v) ∧ Rep K mg J G d v := by
  unfold getVar at h
  split at h
  · rename_i d' e
    cases h
    exact s.at_ i _ e
  · cases h
theorem Post.ext {α β : Type} {Rp : Hp → α → β → Prop} {Q : β → Hp → Prop} {r : Res α} (h : Post K mg J G H σ W Rp Q r) (x : Ext J G H G1 H1) : Post K mg J G1 H1 σ W Rp Q r := by
  cases r with
  | ok a st => exact fun b G' H' y j rp => h b G' H' (x.trans y) j rp
  | err e st => exact fun c d G' H' y j rp => h c d G' H' (x.trans y) j rp
  | stuck => exact h
theorem Post.imp {α β : Type} {Rp : Hp → α → β → Prop} {Q Q' : β → Hp → Prop} {r : Res α} (h : Post K mg J G H σ W Rp Q r) (k : ∀ b H', Q b H' → Q' b H') : Post K mg J G H σ W Rp Q' r := by
  cases r with
  | ok a st => exact fun b G' H' y j rp => k _ _ (h b G' H' y j rp)
  | err e st => exact h
  | stuck => exact h
theorem post_bind {α β γ δ : Type} {Rp : Hp → α → β → Prop} {Rq : Hp → γ → δ → Prop} {Q : δ → Hp → Prop} {m : M α} {k : α → M γ} {st : S} (h : Post K mg J G H σ W Rq Q (M.bind m k st)) :
    Post K mg J G H σ W Rp (fun b H1 => ∃ (a : α) (st1 : S) (G1 : Hp), m st = .ok a st1 ∧ Ext J G H G1 H1 ∧ JOk K mg J G1 H1 st1 ∧ Rp G1 a b ∧ Post K mg J G1 H1 σ W Rq Q (k a st1)) (m st) := by
  unfold M.bind at h
  cases e : m st with
  | ok a st1 =>
    rw [e] at h
    exact fun b G' H' y j rp => ⟨a, st1, G', rfl, y, j, rp, Post.ext (show Post K mg J G H σ W Rq Q (k a st1) from h) y⟩
  | err x st1 =>
    rw [e] at h
    exact h
  | stuck =>
    rw [e] at h
    exact h.elim
theorem post_lift {α β : Type} {Rp : Hp → α → β → Prop} {Q : β → Hp → Prop} {o : Option α} {st : S} (h : Post K mg J G H σ W Rp Q (lift o st)) (j : JOk K mg J G H st) :
    ∃ a, o = some a ∧ ∀ (b : β) (G' H' : Hp), Ext J G H G' H' → Same H H' → Rp G' a b → Q b H' := by
  cases o with
  | none => exact h.elim
  | some a => exact ⟨a, rfl, fun b G' H' x s rp => h b G' H' x (j.keep x s) rp⟩
theorem post_pure {α β : Type} {Rp : Hp → α → β → Prop} {Q : β → Hp → Prop} {a : α} {st : S} (h : Post K mg J G H σ W Rp Q (M.pure a st)) (j : JOk K mg J G H st) :
    ∀ (b : β) (G' H' : Hp), Ext J G H G' H' → Same H H' → Rp G' a b → Q b H' := fun b G' H' x s rp => h b G' H' x (j.keep x s) rp
end
theorem post_bindD {K : PySem.W.Frag} {mg : MG} {J : Option Addr} {G H : Hp} {σ : L2.St} {W : WX} {γ δ : Type} {Rq : Hp → γ → δ → Prop} {Q : δ → Hp → Prop} {m : M D} {k : D → M γ} {st : S} (h : Post K mg J G H σ W Rq Q (M.bind m k st)) :
    Post K mg J G H σ W (Rep K mg J) (fun b H1 => ∃ (a : D) (st1 : S) (G1 : Hp), m st = .ok a st1 ∧ Ext J G H G1 H1 ∧ JOk K mg J G1 H1 st1 ∧ Rep K mg J G1 a b ∧ Post K mg J G1 H1 σ W Rq Q (k a st1)) (m st) := post_bind h
theorem post_bindDs {K : PySem.W.Frag} {mg : MG} {J : Option Addr} {G H : Hp} {σ : L2.St} {W : WX} {γ δ : Type} {Rq : Hp → γ → δ → Prop} {Q : δ → Hp → Prop} {m : M (List D)} {k : List D → M γ} {st : S} (h : Post K mg J G H σ W Rq Q (M.bind m k st)) :
    Post K mg J G H σ W (Reps K mg J) (fun b H1 => ∃ (a : List D) (st1 : S) (G1 : Hp), m st = .ok a st1 ∧ Ext J G H G1 H1 ∧ JOk K mg J G1 H1 st1 ∧ Reps K mg J G1 a b ∧ Post K mg J G1 H1 σ W Rq Q (k a st1)) (m st) := post_bind h
theorem post_bindB {K : PySem.W.Frag} {mg : MG} {J : Option Addr} {G H : Hp} {σ : L2.St} {W : WX} {γ δ : Type} {Rq : Hp → γ → δ → Prop} {Q : δ → Hp → Prop} {m : M Bool} {k : Bool → M γ} {st : S} (h : Post K mg J G H σ W Rq Q (M.bind m k st)) :
    Post K mg J G H σ W (fun _ (a b : Bool) => a = b) (fun b H1 => ∃ (a : Bool) (st1 : S) (G1 : Hp), m st = .ok a st1 ∧ Ext J G H G1 H1 ∧ JOk K mg J G1 H1 st1 ∧ a = b ∧ Post K mg J G1 H1 σ W Rq Q (k a st1)) (m st) := post_bind h
/-- a pure step in between -/
theorem post_bindL {K : PySem.W.Frag} {mg : MG} {J : Option Addr} {G H : Hp} {σ : L2.St} {W : WX} {α γ δ : Type} {Rq : Hp → γ → δ → Prop} {Q : δ → Hp → Prop} {o : Option α} {k : α → M γ} {st : S} (h : Post K mg J G H σ W Rq Q (M.bind (lift o) k st)) :
    ∃ a, o = some a ∧ Post K mg J G H σ W Rq Q (k a st) := by
  cases o with
  | none => exact h.elim
  | some a => exact ⟨a, rfl, h⟩
theorem post_map {K : PySem.W.Frag} {mg : MG} {J : Option Addr} {G H : Hp} {σ : L2.St} {W : WX} {α γ δ γ' δ' : Type} {Rq : Hp → γ → δ → Prop} {Q : δ → Hp → Prop} {Rq' : Hp → γ' → δ' → Prop} {Q' : δ' → Hp → Prop} {m : M α} {k : α → M γ} {k' : α → M γ'} {st : S}
    (h : Post K mg J G H σ W Rq Q (M.bind m k st)) (f : ∀ a st1, m st = .ok a st1 → Post K mg J G H σ W Rq Q (k a st1) → Post K mg J G H σ W Rq' Q' (k' a st1)) : Post K mg J G H σ W Rq' Q' (M.bind m k' st) := by
  unfold M.bind at h ⊢
  cases e : m st with
  | ok a st1 =>
    rw [e] at h
    exact f a st1 e h
  | err x st1 =>
    rw [e] at h
    exact h
  | stuck =>
    rw [e] at h
    exact h.elim
theorem post_lifts {K : PySem.W.Frag} {mg : MG} {J : Option Addr} {G H : Hp} {σ : L2.St} {W : WX} {γ δ γ' δ' : Type} {Rq : Hp → γ → δ → Prop} {Q : δ → Hp → Prop} {Rq' : Hp → γ' → δ' → Prop} {Q' : δ' → Hp → Prop} {o : Option γ} {o' : Option γ'} {st : S}
    (h : Post K mg J G H σ W Rq Q (lift o st)) (f : ∀ a, o = some a → ∃ a', o' = some a' ∧ ∀ G' b', Rq' G' a' b' → ∃ b, Rq G' a b ∧ ∀ H', Q b H' → Q' b' H') : Post K mg J G H σ W Rq' Q' (lift o' st) := by
  cases o with
  | none => exact h.elim
  | some a =>
    obtain ⟨a', e, k⟩ := f a rfl
    subst e
    intro b' G' H' x j r
    obtain ⟨b, r', q⟩ := k G' b' r
    exact q H' (h b G' H' x j r')
theorem M.bind_assoc {α β γ : Type} (m : M α) (f : α → M β) (g : β → M γ) : M.bind (M.bind m f) g = M.bind m fun x => M.bind (f x) g := by
  funext st
  unfold M.bind
  cases m st <;> rfl
theorem M.pure_bind {α β : Type} (a : α) (g : α → M β) : M.bind (M.pure a) g = g a := rfl
/-- the state that a reading starts from -/
structure Now (K : PySem.W.Frag) (mg : MG) (J : Option Addr) (σ : L2.St) (H : Hp) (ρ : Env) (G : Hp) (st : S) : Prop where
  s : SRel K mg J σ H ρ G
  le : Same G H
  j : JOk K mg J G H st
theorem Now.go {K : PySem.W.Frag} {mg : MG} {J : Option Addr} {σ : L2.St} {H G H1 G1 : Hp} {ρ : Env} {st st1 : S} (n : Now K mg J σ H ρ G st) (x : Ext J G H G1 H1) (j : JOk K mg J G1 H1 st1) : Now K mg J σ H1 ρ G1 st1 := ⟨n.s.mono x, x.le, j⟩
def tDG {α β : Type} (K : PySem.W.Frag) (mg : MG) (W : WX) (Rp : Option Addr → Hp → α → β → Prop) (f : Env → M α) (σ : L2.St) (H : Hp) (Q : β → Hp → Prop) : Prop :=
  ∃ (J : Option Addr) (G : Hp) (ρ : Env) (st : S), Now K mg J σ H ρ G st ∧ Post K mg J G H σ W (Rp J) Q (f ρ st)
/-- a value -/
def tD (K : PySem.W.Frag) (mg : MG) (W : WX) (f : Env → M D) : TE := fun σ H Q => tDG K mg W (Rep K mg) f σ H Q
/-- a list of values -/
def tDs (K : PySem.W.Frag) (mg : MG) (W : WX) (f : Env → M (List D)) : TA := fun σ H Q => tDG K mg W (Reps K mg) f σ H Q
/-- a truth -/
def tDb (K : PySem.W.Frag) (mg : MG) (W : WX) (f : Env → M Bool) : TT := fun σ H Q => tDG K mg W (fun _ _ (a b : Bool) => a = b) f σ H Q
theorem PE.of {X : Cx} {e : Expr} {t t' : TE} (h : PE X e t) (k : ∀ σ H Q, t' σ H Q → t σ H Q) : PE X e t' := ⟨fun pins s σ H Q I q => h.run pins s σ H Q I (k _ _ _ q)⟩
theorem PT.of {X : Cx} {e : Expr} {t t' : TT} (h : PT X e t) (k : ∀ σ H Q, t' σ H Q → t σ H Q) : PT X e t' := ⟨fun pins s σ H Q I q => h.run pins s σ H Q I (k _ _ _ q)⟩
theorem PW.of {X : Cx} {e : Expr} {t t' : TT} (h : PW X e t) (k : ∀ σ H Q, t' σ H Q → t σ H Q) : PW X e t' := ⟨fun wh pins s σ H Q I q => h.run wh pins s σ H Q I (k _ _ _ q)⟩
theorem PA.of {X : Cx} {e : List Expr} {t t' : TA} (h : PA X e t) (k : ∀ σ H Q, t' σ H Q → t σ H Q) : PA X e t' := ⟨fun pos pins s σ H Q I q => h.run pos pins s σ H Q I (k _ _ _ q)⟩
theorem PS.of {X : Cx} {e : Stmt} {t t' : TS} (h : PS X e t) (k : ∀ D σ H, t' D σ H → t D σ H) : PS X e t' := ⟨fun pins s σ H D I q => h.run pins s σ H D I (k _ _ _ q)⟩
theorem PSs.of {X : Cx} {e : List Stmt} {t t' : TS} (h : PSs X e t) (k : ∀ D σ H, t' D σ H → t D σ H) : PSs X e t' := ⟨fun pins s σ H D I q => h.run pins s σ H D I (k _ _ _ q)⟩
/-! ### operators, by values -/
section
variable {X : Cx}
/-- what an operation of two values asks: data of both, its outcome, new objects at most -/
def r2 (K : PySem.W.Frag) (mg : MG) (f : D → D → Option D) : R2 := fun x y H Q => ∃ (J : Option Addr) (G : Hp) (a b d : D), Same G H ∧ Rep K mg J G a x ∧ Rep K mg J G b y ∧ f a b = some d ∧
  ∀ (v : V) (G' H' : Hp), Ext J G H G' H' → Same H H' → Rep K mg J G' d v → Q v H'
def r1 (K : PySem.W.Frag) (mg : MG) (f : D → Option D) : V → Hp → VK → Prop := fun x H Q => ∃ (J : Option Addr) (G : Hp) (a d : D), Same G H ∧ Rep K mg J G a x ∧ f a = some d ∧
  ∀ (v : V) (G' H' : Hp), Ext J G H G' H' → Same H H' → Rep K mg J G' d v → Q v H'
def rN (K : PySem.W.Frag) (mg : MG) (f : List D → Option D) : List V → Hp → VK → Prop := fun xs H Q => ∃ (J : Option Addr) (G : Hp) (ds : List D) (d : D), Same G H ∧ Reps K mg J G ds xs ∧ f ds = some d ∧
  ∀ (v : V) (G' H' : Hp), Ext J G H G' H' → Same H H' → Rep K mg J G' d v → Q v H'
def rB (K : PySem.W.Frag) (mg : MG) (f : D → Option Bool) : V → Hp → (Bool → Hp → Prop) → Prop := fun x H Q => ∃ (J : Option Addr) (G : Hp) (a : D) (b : Bool), Same G H ∧ Rep K mg J G a x ∧ f a = some b ∧ Q b H
theorem same_refl {H : Hp} : Same H H := fun _ _ e => e
theorem op_fdivA : OpR X (binaryOp .FloorDiv) (rI (fun _ j => j ≠ 0 ∧ j.natAbs.log2 < 9000) fun i j => .int (i.fdiv j)) := opI fun _ _ _ _ _ _ _ hc q => floordiv_int hc.1 q (.inl (PyProof.noPylong_of_log2 hc.2))
theorem small_line {n : Nat} (h : n ≤ 1000000) : n ≤ sizeLine := by rw [sizeLine_eq]; omega
/-- list + list, wherever they stand -/
theorem op_cat2 : OpR X (binaryOp .Add) (fun x y H Q => ∃ l b xs zs, x = .ref l ∧ y = .ref b ∧ Rd H l (.lst xs) ∧ Rd H b (.lst zs) ∧ xs.length + zs.length ≤ sizeLine ∧ ∀ p, H p = none → Q (.ref p) (upd H p (.lst (xs ++ zs)))) := by
  intro pins s σ H x y v u Q I rx ry h
  obtain ⟨l, b, xs, zs, rfl, rfl, hH, hB, hz, q⟩ := h
  cases rx
  cases ry
  obtain ⟨z, its, n, r, p⟩ := hH.ok I.hok
  obtain ⟨z2, its2, n2, r2, p2⟩ := hB.ok I.hok
  have hl := r.length
  have hl2 := r2.length
  refine PySem.P.add_list p p2 ?_ (by rw [List.size_toArray, List.size_toArray]; omega)
  have ea : its.toArray ++ its2.toArray = (its ++ its2).toArray := by simp
  rw [ea]
  exact ⟨.ref _, _, I.lnew (t' := s.toks) (r.append r2) (by rw [List.length_append]; omega), rfl, q _ I.fresh⟩
end
end DE
/-! a dict == a tuple -/
namespace DE
open PySem PySem.Spec PyProof.Rows L2 PySem.W PySem.SeqAt
open AutoSeq1 (wpAny_loadPart')
theorem sub_dict_tuple : isSubtype (.type "dict") (.type "tuple") = pure false := by rw [isSubtype_type]; kernel_rfl
theorem sub_tuple_dict : isSubtype (.type "tuple") (.type "dict") = pure false := by rw [isSubtype_type]; kernel_rfl
theorem tuple_eq_declines_dict (l b : Addr) (items : Array Value) (n : Nat) (dd dd2 : Option Addr) (sl sl2 : Array (Option Value)) (dt : Data) :
    Meets (Builtin.«tuple.__eq__» ⟨[.ref l, .ref b], []⟩) (fun _ R s => s.heap.get? l = some { cls := .type "tuple", dict := dd, data := .seq items n, slots := sl } ∧ s.heap.get? b = some { cls := .type "dict", dict := dd2, data := dt, slots := sl2 } ∧ R (.ok (.ret .notImplemented)) s) :=
  .of_wp fun prog w A R s h => by obtain ⟨hp, g, d, tk, os⟩ := s; obtain ⟨hl, hb, h⟩ := h; have f1 := sub_dict_tuple; wp_walk using wpAny_loadPart' hl, wpAny_loadPart' hb; exact ⟨_, rfl, h⟩
section
variable {prog : Program} {w : World} {A : Around} {E : Value → Shared → Prop} {s : Shared}
theorem rc_dict_tup {K : Type} [DecidableEq K] {knd : KeyKind prog w K} {a b : Addr} {ka : List (K × Value)} {items : Array Value} {Q : Value → Shared → Prop} (da : s.heap.DictOf knd a ka) (hb : s.heap.IsTuple b items) (hu : A.units < cLine) (h : Q (.bool false) s) :
    wpAny (model prog w) A (compareOp .Eq (.ref a) (.ref b)) Q E s := by
  have ta := da.typeIs
  obtain ⟨⟨cls2, dd2, data2, sl2⟩, ho2, hc2, n2, hd2⟩ := id hb
  simp only at hc2 hd2
  subst hc2 hd2
  obtain ⟨⟨cls, dd, data, sl⟩, ho, hc⟩ := id ta
  simp only at hc
  subst hc
  have hne : a ≠ b := fun e => by
    subst e
    rw [ho] at ho2
    have := congrArg Obj.cls (Option.some.inj ho2)
    simp at this
  refine (rc_eq_decline_or (k := false) ta ⟨_, ho2, rfl⟩ (by decide) sub_tuple_dict PySem.F.slot_dict_eq PySem.F.slot_tuple_eq_refl (fun Q' hq => ?_)
    (fun Q' hq => call_meets PySem.F.slot_tuple_eq_refl ⟨_, ho2, rfl⟩ PySem.F.entry_tuple_eq (PySem.F.args_tuple_eq_2 _ _) (tuple_eq_declines_dict b a items n2 dd2 dd sl2 sl _) ⟨ho2, ho, hq⟩)
    (fun Q' hq => wpAny_isSame_ref_other hne ho ho2 (by simp) hq) (.inr hu) h)
  refine wpAny_call_entry PySem.F.slot_dict_eq ta PySem.F.entry_dict_eq ?_ (PySem.F.args_dict_eq_2 _ _)
  show wpAny _ _ (Builtin.Dict.dictSlotArgs "__eq__" ⟨[.ref a, .ref b], []⟩ >>= _) _ _ s
  refine wpAny_bind ?_
  unfold Builtin.Dict.dictSlotArgs
  refine wpAny_bind (wpAny_notOrdered_dict ta ?_)
  show wpAny _ _ (pure (Value.ref a, Value.ref b)) _ _ s
  refine wpAny_pure ?_
  refine wpAny_bind (wpAny_isInstance (T := "tuple") ⟨_, ho2, rfl⟩ sub_tuple_dict ?_)
  refine wpAny_bind (wpAny_rule ?_)
  exact wpAny_pure ⟨_, rfl, hq⟩
end
theorem op_eq_dictup {X : Cx} (hu : X.A.units + 64 < cLine) : OpR X (compareOp .Eq) (fun x y H Q => ∃ (a b : Addr) (kvs : List (Key × V)) (ys : List V), x = .ref a ∧ y = .ref b ∧ H a = some (.dK kvs) ∧ SqT X.K H b ys ∧ Q (.bl false) H) := by
  intro pins s σ H x y v u Q I rx ry h
  obtain ⟨a, b, kvs, ys, rfl, rfl, ea, hb, q⟩ := h
  obtain rfl : v = Value.ref a := rx
  obtain rfl : u = Value.ref b := ry
  obtain ⟨_, ya, va, ra, da⟩ := (show ObjOk X.prog X.w H s.heap a (.dK kvs) from I.hok a _ ea)
  obtain ⟨its, r, e, z⟩ := I.tuple hb
  exact rc_dict_tup da e (by omega) (fin_bl I q rfl)
end DE
/-! Operators by values -/
namespace DE
open PySem PySem.Spec PyProof.Rows L2
section
variable {X : Cx} {mg : MG}
def bop : BOp → Operator
  | .add => .Add | .sub => .Sub | .mul => .Mult | .fdiv => .FloorDiv | .mod => .Mod | .pow => .Pow | .shl => .LShift
theorem rep_lst_new {K : PySem.W.Frag} {J : Option Addr} {G : Hp} {p : Addr} {xs : List D} {vs : List V} (n : G p = none) (r : Reps K mg J G xs vs) : Rep K mg J (upd G p (.lst vs)) (.lst xs) (.ref p) :=
  .lst (.inl upd_same) (r.mono (Same.upd n))
theorem rep_tup_new {K : PySem.W.Frag} {J : Option Addr} {G : Hp} {p : Addr} {xs : List D} {vs : List V} (n : G p = none) (r : Reps K mg J G xs vs) : Rep K mg J (upd G p (.tup vs)) (.tup xs) (.ref p) :=
  .tup (.inl (.inl upd_same)) (r.mono (Same.upd n))
theorem gives_sub_bb (a b : Bool) : Gives (Builtin.«int.__sub__» ⟨[.bool a, .bool b], []⟩) (.int ((if a = true then (1 : Int) else 0) - (if b = true then (1 : Int) else 0))) :=
  .of_wp fun M A E s Q h => by obtain ⟨hp, g, d, tk, os⟩ := s; wp_walk; exact ⟨_, rfl, h⟩
theorem op_subBB : OpR X (binaryOp .Sub) (fun x y H Q => ∃ a b : Bool, x = .bl a ∧ y = .bl b ∧ Q (.int ((if a = true then (1 : Int) else 0) - (if b = true then (1 : Int) else 0))) H) := by
  intro pins s σ H x y v u Q I rx ry h
  obtain ⟨a, b, rfl, rfl, q⟩ := h
  cases (show v = Value.bool a from rx)
  cases (show u = Value.bool b from ry)
  exact binaryOp_gives (op := .Sub) (T := "bool") rfl rfl F.fills_bool_sub F.slot_bool_sub F.entry_int_sub (F.args_int_sub_2 _ _) (gives_sub_bb a b) trivial ⟨.int _, H, I.tok _, ⟨_, rfl⟩, q⟩
theorem mulOk_ok {i j : Int} (h : mulOk i j = true) : IntMulOk i j := by
  unfold mulOk at h
  rw [Bool.or_eq_true, Bool.or_eq_true] at h
  rcases h with h | h | h
  · exact .of_left (PyProof.Rows.intBits_le (of_decide_eq_true h))
  · exact .of_right (PyProof.Rows.intBits_le (of_decide_eq_true h))
  · exact CMulW.ok (by have z := of_decide_eq_true h; exact z)
theorem op_mulA : OpR X (binaryOp .Mult) (rI (fun i j => IntMulOk i j) fun i j => .int (i * j)) := opI fun _ _ _ _ _ _ _ hc q => mul_int q hc
theorem op_bin (o : BOp) : OpR X (binaryOp (bop o)) (r2 X.K mg (binD o)) := by
  intro pins s σ H x y v u Q I rx ry h
  obtain ⟨J, G, a, b, d, le, ra, rb, hd, k⟩ := h
  have k0 : ∀ (v : V), Rep X.K mg J G d v → Q v H := fun v r => k v G H (Ext.refl le) same_refl r
  unfold binD at hd
  split at hd
  · cases hd; cases ra; cases rb
    exact op_add pins s σ H _ _ v u Q I rx ry ⟨_, _, rfl, rfl, k0 _ (.int _)⟩
  · cases hd; cases ra; cases rb
    exact op_sub pins s σ H _ _ v u Q I rx ry ⟨_, _, rfl, rfl, k0 _ (.int _)⟩
  · cases hd; cases ra; cases rb
    exact op_subBB pins s σ H _ _ v u Q I rx ry ⟨_, _, rfl, rfl, k0 _ (.int _)⟩
  · split at hd
    · rename_i hz
      cases hd; cases ra; cases rb
      exact op_mulA pins s σ H _ _ v u Q I rx ry ⟨_, _, rfl, rfl, mulOk_ok hz, k0 _ (.int _)⟩
    · cases hd
  · split at hd
    · rename_i hz
      cases hd; cases ra; cases rb
      obtain ⟨z1, z2⟩ := Bool.and_eq_true_iff.mp hz
      exact op_fdivA pins s σ H _ _ v u Q I rx ry ⟨_, _, rfl, rfl, ⟨of_decide_eq_true z1, of_decide_eq_true z2⟩, k0 _ (.int _)⟩
    · cases hd
  · split at hd
    · rename_i hz
      cases hd; cases ra; cases rb
      exact op_modN pins s σ H _ _ v u Q I rx ry ⟨_, _, rfl, rfl, of_decide_eq_true hz, k0 _ (.int _)⟩
    · cases hd
  · split at hd
    · rename_i hz
      cases hd; cases ra; cases rb
      obtain ⟨z1, z2⟩ := Bool.and_eq_true_iff.mp hz
      obtain ⟨z2, z3⟩ := Bool.and_eq_true_iff.mp z2
      exact op_pow pins s σ H _ _ v u Q I rx ry ⟨_, _, rfl, rfl, ⟨of_decide_eq_true z1, of_decide_eq_true z2, of_decide_eq_true z3⟩, k0 _ (.int _)⟩
    · cases hd
  · split at hd
    · rename_i hz
      cases hd; cases ra; cases rb
      obtain ⟨z1, z2⟩ := Bool.and_eq_true_iff.mp hz
      obtain ⟨z2, z3⟩ := Bool.and_eq_true_iff.mp z2
      exact op_shl pins s σ H _ _ v u Q I rx ry ⟨_, _, rfl, rfl, ⟨of_decide_eq_true z1, of_decide_eq_true z2, of_decide_eq_true z3⟩, k0 _ (.int _)⟩
    · cases hd
  · split at hd
    · rename_i hz
      cases hd
      cases ra with
      | lst ha ra =>
        cases rb with
        | lst hb rb =>
          have hz := of_decide_eq_true hz
          refine op_cat2 pins s σ H _ _ v u Q I rx ry ⟨_, _, _, _, rfl, rfl, sameR le ha, sameR le hb, ?_, fun p hp => ?_⟩
          · rw [← ra.length, ← rb.length]; exact small_line hz
          · exact k _ _ _ (Ext.new le hp) (Same.upd hp) (rep_lst_new (free_of le hp) (ra.append rb))
    · cases hd
  · split at hd
    · rename_i hz
      cases hd
      cases ra with
      | tup ha ra =>
        cases rb with
        | tup hb rb =>
          obtain ⟨hz, z3⟩ := Bool.and_eq_true_iff.mp hz
          obtain ⟨z1, z2⟩ := Bool.and_eq_true_iff.mp hz
          have z1 := of_decide_eq_true z1
          refine op_catT pins s σ H _ _ v u Q I rx ry ⟨_, _, _, _, rfl, rfl, sameT le ha, sameT le hb, ?_, ?_, ?_, fun _ p hp => ?_⟩
          · intro e; subst e; cases ra; simp at z2
          · rw [← ra.length, ← rb.length]; exact small_line z1
          · intro e; subst e; cases rb; simp at z3
          · exact k _ _ _ (Ext.new le hp) (Same.upd hp) (rep_tup_new (free_of le hp) (ra.append rb))
    · cases hd
  · split at hd
    · rename_i hz
      cases hd; cases ra; cases rb
      exact op_add_str pins s σ H _ _ v u Q I rx ry ⟨_, _, rfl, rfl, small_line (of_decide_eq_true hz), k0 _ (.str _)⟩
    · cases hd
  · cases hd
theorem un_negD : UnR X (unaryOp .USub) (r1 X.K mg negD) := by
  intro pins s σ H x v Q I rx h
  obtain ⟨J, G, a, d, le, ra, hd, k⟩ := h
  unfold negD at hd
  split at hd
  · cases hd; cases ra
    exact un_neg pins s σ H _ v Q I rx ⟨_, rfl, k _ G H (Ext.refl le) same_refl (.int _)⟩
  · cases hd
/-- truth -/
theorem tru_okD : TruR X (rB X.K mg truD) := by
  intro pins s σ H x v Q I rx h
  obtain ⟨J, G, a, b, le, ra, hd, k⟩ := h
  refine tru_ok pins s σ H x v Q I rx ⟨b, ?_, k⟩
  unfold truD at hd
  split at hd
  · cases hd; cases ra; rfl
  · cases hd; cases ra; rfl
  · cases hd; cases ra; rfl
  · split at hd
    · rename_i hz
      cases hd; cases ra; exact ⟨small_line (of_decide_eq_true hz), rfl⟩
    · cases hd
  · cases hd
    cases ra with
    | lst h r => exact .inl ⟨_, .inl (sameR le h), by cases r <;> rfl⟩
  · cases hd
    cases ra with
    | tup h r => exact .inr (.inl ⟨_, sameT le h, by cases r <;> rfl⟩)
  · cases hd
mutual
theorem rep_py {K : PySem.W.Frag} {J : Option Addr} {G H : Hp} (le : Same G H) : ∀ {a : D} {x : V} {p : PyData}, Rep K mg J G a x → toPy a = some p → Dp K H x p
  | _, _, _, .non, e => by simp only [toPy] at e; cases e; exact .non
  | _, _, _, .bl b, e => by simp only [toPy] at e; cases e; exact .bl b
  | _, _, _, .int b, e => by simp only [toPy] at e; cases e; exact .int b
  | _, _, _, .str b, e => by simp only [toPy] at e; cases e; exact .str b
  | _, _, _, .ty b, e => by simp only [toPy] at e; cases e
  | _, _, _, .glb h, e => by simp only [toPy] at e; cases e
  | _, _, _, .jug h, e => by simp only [toPy] at e; cases e
  | _, _, _, .dic h, e => by simp only [toPy] at e; cases e
  | _, _, _, .klst h r, e => by simp only [toPy] at e; cases e
  | _, _, _, .ins _ _ _, e => by simp only [toPy] at e; cases e
  | _, _, _, .tup (xs := xs) h r, e => by
    simp only [toPy] at e
    cases q : toPys xs with
    | none => rw [q] at e; cases e
    | some ps => rw [q] at e; cases e; exact .tup (sameT le h) (reps_py le r q)
  | _, _, _, .lst (xs := xs) h r, e => by
    simp only [toPy] at e
    cases q : toPys xs with
    | none => rw [q] at e; cases e
    | some ps => rw [q] at e; cases e; exact .lst (.inl (sameR le h)) (reps_py le r q)
theorem reps_py {K : PySem.W.Frag} {J : Option Addr} {G H : Hp} (le : Same G H) : ∀ {a : List D} {x : List V} {p : List PyData}, Reps K mg J G a x → toPys a = some p → DpAll K H x p
  | _, _, _, .nil, e => by simp only [toPys] at e; cases e; exact .nil
  | _, _, _, .cons (d := d) (ds := ds) h r, e => by
    simp only [toPys] at e
    cases q1 : toPy d with
    | none => rw [q1] at e; cases e
    | some p1 =>
      cases q2 : toPys ds with
      | none => rw [q1, q2] at e; cases e
      | some p2 => rw [q1, q2] at e; cases e; exact .cons (rep_py le h q1) (reps_py le r q2)
end
theorem eqD_some {a b : D} {k : Bool} (h : eqD a b = some k) : ∃ p q, toPy a = some p ∧ toPy b = some q ∧ SeqAt.shaped p = true ∧ SeqAt.shaped q = true ∧ k = PyData.eqv p q := by
  unfold eqD at h
  cases q1 : toPy a with
  | none => rw [q1] at h; cases h
  | some p =>
    cases q2 : toPy b with
    | none => rw [q1, q2] at h; cases h
    | some q =>
      rw [q1, q2] at h
      have h' : (if (SeqAt.shaped p && SeqAt.shaped q) = true then some (PyData.eqv p q) else none) = some k := h
      split at h'
      · rename_i z
        obtain ⟨z1, z2⟩ := Bool.and_eq_true_iff.mp z
        cases h'
        exact ⟨p, q, rfl, rfl, z1, z2, rfl⟩
      · cases h'
def cop : COp → CmpOp
  | .eq => .Eq | .ne => .NotEq | .lt => .Lt | .le => .LtE | .gt => .Gt | .ge => .GtE | .isN => .Is | .notN => .IsNot | .isin => .In | .notin => .NotIn
theorem op_cmp (hu : X.A.units + 64 < cLine) (o : COp) : OpR X (compareOp (cop o)) (fun x y H Q => ∃ (J : Option Addr) (G : Hp) (a b : D) (k : Bool), Same G H ∧ Rep X.K mg J G a x ∧ Rep X.K mg J G b y ∧ cmpD o a b = some k ∧ Q (.bl k) H) := by
  intro pins s σ H x y v u Q I rx ry h
  obtain ⟨J, G, a, b, k, le, ra, rb, hd, q⟩ := h
  unfold cmpD at hd
  split at hd
  · cases hd; cases ra; cases rb; exact op_lt pins s σ H _ _ v u Q I rx ry ⟨_, _, rfl, rfl, q⟩
  · cases hd; cases ra; cases rb; exact op_le pins s σ H _ _ v u Q I rx ry ⟨_, _, rfl, rfl, q⟩
  · cases hd; cases ra; cases rb; exact op_gt pins s σ H _ _ v u Q I rx ry ⟨_, _, rfl, rfl, q⟩
  · cases hd; cases ra; cases rb; exact op_ge pins s σ H _ _ v u Q I rx ry ⟨_, _, rfl, rfl, q⟩
  · cases rb
    refine op_isN pins s σ H _ _ v u Q I rx ry ⟨rfl, ?_⟩
    cases hd
    cases ra <;> exact q
  · cases rb
    refine op_notN pins s σ H _ _ v u Q I rx ry ⟨rfl, ?_⟩
    cases hd
    cases ra <;> exact q
  · cases hd; cases ra; cases rb; exact op_isBl pins s σ H _ _ v u Q I rx ry ⟨_, _, rfl, rfl, q⟩
  · cases hd; cases ra; cases rb; exact op_notBl pins s σ H _ _ v u Q I rx ry ⟨_, _, rfl, rfl, q⟩
  · split at hd
    · rename_i hdt
      cases hd
      unfold isDT at hdt
      split at hdt
      · cases ra with
        | dic h1 =>
          cases rb with
          | tup h2 _ => exact op_eq_dictup hu pins s σ H _ _ v u Q I rx ry ⟨_, _, _, _, rfl, rfl, le _ _ h1, sameT le h2, q⟩
      · cases hdt
    · obtain ⟨p, p2, e1, e2, s1, s2, rfl⟩ := eqD_some hd
      exact op_eqD hu pins s σ H _ _ v u Q I rx ry ⟨_, _, rep_py le ra e1, rep_py le rb e2, s1, s2, q⟩
  · cases e : eqD a b with
    | none => rw [e] at hd; cases hd
    | some k' =>
      rw [e] at hd
      cases hd
      obtain ⟨p, p2, e1, e2, s1, s2, rfl⟩ := eqD_some e
      exact op_neD hu pins s σ H _ _ v u Q I rx ry ⟨_, _, rep_py le ra e1, rep_py le rb e2, s1, s2, q⟩
  · cases hd; cases ra; cases rb; exact op_in_str pins s σ H _ _ v u Q I rx ry ⟨_, _, rfl, rfl, q⟩
  · cases hd; cases ra; cases rb; exact op_notin_str pins s σ H _ _ v u Q I rx ry ⟨_, _, rfl, rfl, q⟩
  · cases hd
end
end DE
/-! Expressions: each form, from its parts -/
namespace DE
open PySem PySem.Spec PyProof.Rows L2
section
variable {X : Cx} {mg : MG} {W : WX} {pos : Pos} {a b c i : Expr} {fa fb fc : Env → M D}
theorem pe_varD {n : Nat} {x : Str} (hN : X.N[n]? = some x) (hv : Vis X.env.scope x) (hd : (x == ("__debug__" : Str)) = false) (hcd : (x == ("__classdict__" : Str)) = false) :
    PE X (.Name x pos) (tD X.K mg W fun ρ => lift (getVar ρ n)) := by
  refine PE.of (pe_var hN hv hd hcd) ?_
  rintro σ H Q ⟨J, G, ρ, st, w, h⟩
  obtain ⟨d, e, k⟩ := post_lift h w.j
  obtain ⟨v, e1, r⟩ := w.s.get e
  exact ⟨v, e1, k v G H (Ext.refl w.le) same_refl r⟩
/-- a constant -/
theorem pe_cstD {e : Expr} {v : V} {d : D} (h : PE X e (tC v)) (r : ∀ J G, Rep X.K mg J G d v) : PE X e (tD X.K mg W fun _ => M.pure d) := by
  refine PE.of h ?_
  rintro σ H Q ⟨J, G, ρ, st, w, h⟩
  exact post_pure h w.j v G H (Ext.refl w.le) same_refl (r J G)
theorem pe_binD {o : BOp} (ha : PE X a (tD X.K mg W fa)) (hb : PE X b (tD X.K mg W fb)) : PE X (.BinOp a (bop o) b pos) (tD X.K mg W fun ρ => M.bind (fa ρ) fun x => M.bind (fb ρ) fun y => lift (binD o x y)) := by
  refine PE.of (pe_op (op_bin (mg := mg) o) ha hb) ?_
  rintro σ H Q ⟨J, G, ρ, st, w, h⟩
  refine ⟨J, G, ρ, st, w, (post_bind h).imp ?_⟩
  rintro x H1 ⟨d1, st1, G1, _, x1, j1, r1, h1⟩
  refine ⟨J, G1, ρ, st1, w.go x1 j1, (post_bind h1).imp ?_⟩
  rintro y H2 ⟨d2, st2, G2, _, x2, j2, r2, h2⟩
  obtain ⟨d, e, k⟩ := post_lift h2 j2
  exact ⟨J, G2, d1, d2, d, x2.le, r1.mono x2.gg, r2, e, k⟩
theorem pe_negD (ha : PE X a (tD X.K mg W fa)) : PE X (.UnaryOp .USub a pos) (tD X.K mg W fun ρ => M.bind (fa ρ) fun x => lift (negD x)) := by
  refine PE.of (pe_un (un_negD (mg := mg)) ha) ?_
  rintro σ H Q ⟨J, G, ρ, st, w, h⟩
  refine ⟨J, G, ρ, st, w, (post_bind h).imp ?_⟩
  rintro x H1 ⟨d1, st1, G1, _, x1, j1, r1, h1⟩
  obtain ⟨d, e, k⟩ := post_lift h1 j1
  exact ⟨J, G1, d1, d, x1.le, r1, e, k⟩
/-- a comparison's value -/
theorem pe_cmpD (hu : X.A.units + 64 < cLine) {o : COp} (ha : PE X a (tD X.K mg W fa)) (hb : PE X b (tD X.K mg W fb)) (hm : behindInMarks (cop o) b = false) :
    PE X (.Compare a [cop o] [b] pos) (tD X.K mg W fun ρ => M.bind (fa ρ) fun x => M.bind (fb ρ) fun y => lift ((cmpD o x y).map .bl)) := by
  refine PE.of (pe_cmpR (op_cmp (mg := mg) hu o) ha hb hm) ?_
  rintro σ H Q ⟨J, G, ρ, st, w, h⟩
  refine ⟨J, G, ρ, st, w, (post_bind h).imp ?_⟩
  rintro x H1 ⟨d1, st1, G1, _, x1, j1, r1, h1⟩
  refine ⟨J, G1, ρ, st1, w.go x1 j1, (post_bind h1).imp ?_⟩
  rintro y H2 ⟨d2, st2, G2, _, x2, j2, r2, h2⟩
  obtain ⟨d, e, k⟩ := post_lift h2 j2
  cases q : cmpD o d1 d2 with
  | none => rw [q] at e; cases e
  | some t =>
    rw [q] at e; cases e
    exact ⟨J, G2, d1, d2, t, x2.le, r1.mono x2.gg, r2, q, k _ G2 _ (Ext.refl x2.le) same_refl (.bl t)⟩
theorem pt_cmpD (hu : X.A.units + 64 < cLine) {o : COp} (ha : PE X a (tD X.K mg W fa)) (hb : PE X b (tD X.K mg W fb)) (hm : behindInMarks (cop o) b = false) :
    PT X (.Compare a [cop o] [b] pos) (tDb X.K mg W fun ρ => M.bind (M.bind (fa ρ) fun x => M.bind (fb ρ) fun y => lift ((cmpD o x y).map .bl)) fun x => lift (truD x)) := by
  refine PT.of (pt_cmpR (op_cmp (mg := mg) hu o) ha hb hm) ?_
  rintro σ H Q ⟨J, G, ρ, st, w, h⟩
  simp only [M.bind_assoc] at h
  refine ⟨J, G, ρ, st, w, (post_bindD h).imp ?_⟩
  rintro x H1 ⟨d1, st1, G1, _, x1, j1, r1, h1⟩
  refine ⟨J, G1, ρ, st1, w.go x1 j1, (post_bindD h1).imp ?_⟩
  rintro y H2 ⟨d2, st2, G2, _, x2, j2, r2, h2⟩
  obtain ⟨d, e, h3⟩ := post_bindL h2
  cases q : cmpD o d1 d2 with
  | none => rw [q] at e; cases e
  | some t =>
    rw [q] at e; cases e
    obtain ⟨d', e', k'⟩ := post_lift h3 j2
    cases e'
    exact ⟨J, G2, d1, d2, t, x2.le, r1.mono x2.gg, r2, q, t, rfl, k' t G2 _ (Ext.refl x2.le) same_refl rfl⟩
end
end DE
/-! Expressions: further forms -/
namespace DE
open PySem PySem.Spec PyProof.Rows L2
section
variable {X : Cx} {mg : MG} {W : WX} {pos : Pos} {a b c i : Expr} {fa fb fc : Env → M D} {es rest : List Expr} {fs : Env → M (List D)}
abbrev tst (f : Env → M D) : Env → M Bool := fun ρ => M.bind (f ρ) fun x => lift (truD x)
abbrev tT (K : PySem.W.Frag) (mg : MG) (W : WX) (f : Env → M D) : TT := tDb K mg W (tst f)
/-- a value's truth, whatever the expression -/
theorem pt_truthD (ha : PE X a (tD X.K mg W fa)) (he : ∀ whole, isTrue a X.env whole = (do let v ← whole; standAt a.pos; holding [v] (truthy v))) : PT X a (tT X.K mg W fa) := by
  refine ⟨fun pins s σ H Q I h => ?_⟩
  obtain ⟨J, G, ρ, st, w, h⟩ := h
  refine isTrue_plain (thn (ha.run pins s σ H _ I ⟨J, G, ρ, st, w, post_bindD h⟩) fun v s1 ⟨x, H1, I1, r1, q1⟩ => ?_) (he _)
  obtain ⟨d, st1, G1, _, x1, j1, rp, h1⟩ := q1
  obtain ⟨k, e, q⟩ := post_lift h1 j1
  exact tru_okD pins s1 σ H1 x v Q I1 r1 ⟨J, G1, d, k, x1.le, rp, e, q k G1 H1 (Ext.refl x1.le) same_refl rfl⟩
theorem pe_notD (ha : PE X a (tD X.K mg W fa)) : PE X (.UnaryOp .Not a pos) (tD X.K mg W fun ρ => M.bind (fa ρ) fun x => lift ((truD x).map fun b => .bl (!b))) := by
  refine ⟨fun pins s σ H Q I h => ?_⟩
  obtain ⟨J, G, ρ, st, w, h⟩ := h
  refine UnaryOp_ (thn (ha.run pins s σ H _ I ⟨J, G, ρ, st, w, post_bindD h⟩) fun v s1 ⟨x, H1, I1, r1, q1⟩ => ?_)
  obtain ⟨d, st1, G1, _, x1, j1, rp, h1⟩ := q1
  obtain ⟨k, e, q⟩ := post_lift h1 j1
  cases ht : truD d with
  | none => rw [ht] at e; cases e
  | some t =>
    rw [ht] at e
    cases e
    exact not_of (thn (tru_okD pins s1 σ H1 x v (fun c H2 => Q (.bl (!c)) H2) I1 r1 ⟨J, G1, d, t, x1.le, rp, ht, q _ G1 H1 (Ext.refl x1.le) same_refl (.bl _)⟩) fun c s2 ⟨H2, I2, q2⟩ => ⟨.bl (!c), H2, I2, rfl, q2⟩)
theorem pt_notD (ha : PT X a (tT X.K mg W fa)) : PT X (.UnaryOp .Not a pos) (tT X.K mg W fun ρ => M.bind (fa ρ) fun x => lift ((truD x).map fun b => .bl (!b))) := by
  refine PT.of (pt_not ha) ?_
  rintro σ H Q ⟨J, G, ρ, st, w, h⟩
  refine ⟨J, G, ρ, st, w, ?_⟩
  simp only [tst, M.bind_assoc] at h ⊢
  refine post_map h fun d st1 _ h => ?_
  obtain ⟨a, e, h⟩ := post_bindL h
  refine post_lifts h fun t ht => ?_
  cases q : truD d with
  | none => rw [q] at e; cases e
  | some k =>
    rw [q] at e
    cases e
    cases ht
    exact ⟨k, rfl, fun G' b' r => ⟨!k, rfl, fun H' z => by subst r; exact z⟩⟩
/-! ### and, or -/
def fAnd (fa fb : Env → M D) : Env → M D := fun ρ => M.bind (fa ρ) fun x => M.bind (lift (truD x)) fun k => match k with
  | true => fb ρ
  | false => M.pure x
def fOr (fa fb : Env → M D) : Env → M D := fun ρ => M.bind (fa ρ) fun x => M.bind (lift (truD x)) fun k => match k with
  | true => M.pure x
  | false => fb ρ
def fIte (fc fa fb : Env → M D) : Env → M D := fun ρ => M.bind (fc ρ) fun x => M.bind (lift (truD x)) fun k => match k with
  | true => fa ρ
  | false => fb ρ
theorem pe_andD (ha : PE X a (tD X.K mg W fa)) (hb : PE X (.BoolOp .And (b :: rest) pos) (tD X.K mg W fb)) : PE X (.BoolOp .And (a :: b :: rest) pos) (tD X.K mg W (fAnd fa fb)) := by
  refine ⟨fun pins s σ H Q I h => ?_⟩
  obtain ⟨J, G, ρ, st, w, h⟩ := h
  refine BoolOp_and (thn (ha.run pins s σ H _ I ⟨J, G, ρ, st, w, post_bindD h⟩) fun v s1 ⟨x, H1, I1, r1, q1⟩ => ?_)
  obtain ⟨d, st1, G1, _, x1, j1, rp, h1⟩ := q1
  obtain ⟨k, e, q⟩ := post_bindL h1
  refine thn (tru_okD (mg := mg) pins s1 σ H1 x v (fun c H2 => c = k ∧ H2 = H1) I1 r1 ⟨J, G1, d, k, x1.le, rp, e, rfl, rfl⟩) fun c s2 hc => ?_
  obtain ⟨H2, I2, e1, e2⟩ := hc
  subst e1 e2
  cases c with
  | true => exact hb.run pins s2 σ _ Q I2 ⟨J, G1, ρ, st1, w.go x1 j1, q⟩
  | false => exact ⟨x, _, I2, r1, post_pure q j1 x G1 _ (Ext.refl x1.le) same_refl rp⟩
theorem pe_orD (ha : PE X a (tD X.K mg W fa)) (hb : PE X (.BoolOp .Or (b :: rest) pos) (tD X.K mg W fb)) : PE X (.BoolOp .Or (a :: b :: rest) pos) (tD X.K mg W (fOr fa fb)) := by
  refine ⟨fun pins s σ H Q I h => ?_⟩
  obtain ⟨J, G, ρ, st, w, h⟩ := h
  refine BoolOp_or (thn (ha.run pins s σ H _ I ⟨J, G, ρ, st, w, post_bindD h⟩) fun v s1 ⟨x, H1, I1, r1, q1⟩ => ?_)
  obtain ⟨d, st1, G1, _, x1, j1, rp, h1⟩ := q1
  obtain ⟨k, e, q⟩ := post_bindL h1
  refine thn (tru_okD (mg := mg) pins s1 σ H1 x v (fun c H2 => c = k ∧ H2 = H1) I1 r1 ⟨J, G1, d, k, x1.le, rp, e, rfl, rfl⟩) fun c s2 hc => ?_
  obtain ⟨H2, I2, e1, e2⟩ := hc
  subst e1 e2
  cases c with
  | false => exact hb.run pins s2 σ _ Q I2 ⟨J, G1, ρ, st1, w.go x1 j1, q⟩
  | true => exact ⟨x, _, I2, r1, post_pure q j1 x G1 _ (Ext.refl x1.le) same_refl rp⟩
theorem tst_and {K : PySem.W.Frag} {σ : L2.St} {H : Hp} {Q : Bool → Hp → Prop} (h : tT K mg W (fAnd fa fb) σ H Q) : tAnd (tT K mg W fa) (tT K mg W fb) σ H Q := by
  obtain ⟨J, G, ρ, st, w, h⟩ := h
  refine ⟨J, G, ρ, st, w, ?_⟩
  simp only [tst, fAnd, M.bind_assoc] at h ⊢
  have h2 : Post K mg J G H σ W (fun _ (a b : Bool) => a = b) Q (M.bind (M.bind (fa ρ) fun x => lift (truD x)) (fun k => match k with | true => M.bind (fb ρ) fun x => lift (truD x) | false => M.pure false) st) := by
    rw [M.bind_assoc]
    refine post_map h fun d st1 _ h => ?_
    obtain ⟨k, e, h⟩ := post_bindL h
    rw [e]
    cases k with
    | true => exact h
    | false =>
      have h : Post K mg J G H σ W (fun _ (a b : Bool) => a = b) Q (lift (truD d) st1) := h
      rw [e] at h
      exact h
  refine (post_bindB h2).imp ?_
  rintro c H1 ⟨k, st1, G1, _, x1, j1, rfl, h3⟩
  cases k with
  | true => exact iteT ⟨J, G1, ρ, st1, w.go x1 j1, h3⟩
  | false => exact iteF (post_pure h3 j1 false G1 H1 (Ext.refl x1.le) same_refl rfl)
theorem tst_or {K : PySem.W.Frag} {σ : L2.St} {H : Hp} {Q : Bool → Hp → Prop} (h : tT K mg W (fOr fa fb) σ H Q) : tOr (tT K mg W fa) (tT K mg W fb) σ H Q := by
  obtain ⟨J, G, ρ, st, w, h⟩ := h
  refine ⟨J, G, ρ, st, w, ?_⟩
  simp only [tst, fOr, M.bind_assoc] at h ⊢
  have h2 : Post K mg J G H σ W (fun _ (a b : Bool) => a = b) Q (M.bind (M.bind (fa ρ) fun x => lift (truD x)) (fun k => match k with | false => M.bind (fb ρ) fun x => lift (truD x) | true => M.pure true) st) := by
    rw [M.bind_assoc]
    refine post_map h fun d st1 _ h => ?_
    obtain ⟨k, e, h⟩ := post_bindL h
    rw [e]
    cases k with
    | false => exact h
    | true =>
      have h : Post K mg J G H σ W (fun _ (a b : Bool) => a = b) Q (lift (truD d) st1) := h
      rw [e] at h
      exact h
  refine (post_bindB h2).imp ?_
  rintro c H1 ⟨k, st1, G1, _, x1, j1, rfl, h3⟩
  cases k with
  | false => exact iteF ⟨J, G1, ρ, st1, w.go x1 j1, h3⟩
  | true => exact iteT (post_pure h3 j1 true G1 H1 (Ext.refl x1.le) same_refl rfl)
theorem pw_andD (ha : PT X a (tT X.K mg W fa)) (hb : PW X (.BoolOp .And (b :: rest) pos) (tT X.K mg W fb)) : PW X (.BoolOp .And (a :: b :: rest) pos) (tT X.K mg W (fAnd fa fb)) := PW.of (pw_and ha hb) fun _ _ _ h => tst_and h
theorem pw_orD (ha : PT X a (tT X.K mg W fa)) (hb : PW X (.BoolOp .Or (b :: rest) pos) (tT X.K mg W fb)) : PW X (.BoolOp .Or (a :: b :: rest) pos) (tT X.K mg W (fOr fa fb)) := PW.of (pw_or ha hb) fun _ _ _ h => tst_or h
theorem pe_iteD (hc : PT X c (tT X.K mg W fc)) (ha : PE X a (tD X.K mg W fa)) (hb : PE X b (tD X.K mg W fb)) : PE X (.IfExp c a b pos) (tD X.K mg W (fIte fc fa fb)) := by
  refine PE.of (pe_ifExp hc ha hb) ?_
  rintro σ H Q ⟨J, G, ρ, st, w, h⟩
  refine ⟨J, G, ρ, st, w, ?_⟩
  have h2 : Post X.K mg J G H σ W (Rep X.K mg J) Q (M.bind (tst fc ρ) (fun k => match k with | true => fa ρ | false => fb ρ) st) := by
    simp only [tst, M.bind_assoc]
    exact h
  refine (post_bindB h2).imp ?_
  rintro k H1 ⟨k, st1, G1, _, x1, j1, rfl, h3⟩
  cases k with
  | true => exact iteT ⟨J, G1, ρ, st1, w.go x1 j1, h3⟩
  | false => exact iteF ⟨J, G1, ρ, st1, w.go x1 j1, h3⟩
/-! ### a op b op c -/
def fChain (o p : COp) (fa fb fc : Env → M D) : Env → M D := fun ρ => M.bind (fa ρ) fun x => M.bind (fb ρ) fun y => M.bind (lift (cmpD o x y)) fun k => match k with
  | true => M.bind (fc ρ) fun z => lift ((cmpD p y z).map .bl)
  | false => M.pure (.bl false)
theorem pe_chainD (hu : X.A.units + 64 < cLine) {o p : COp} (ha : PE X a (tD X.K mg W fa)) (hb : PE X b (tD X.K mg W fb)) (hc : PE X c (tD X.K mg W fc)) (hm : lastMarks [cop o, cop p] [b, c] = false) :
    PE X (.Compare a [cop o, cop p] [b, c] pos) (tD X.K mg W (fChain o p fa fb fc)) := by
  refine PE.of (pe_chain (op_cmp (mg := mg) hu o) (op_cmp (mg := mg) hu p) ha hb hc hm) ?_
  rintro σ H Q ⟨J, G, ρ, st, w, h⟩
  refine ⟨J, G, ρ, st, w, (post_bindD h).imp ?_⟩
  rintro x H1 ⟨d1, st1, G1, _, x1, j1, r1, h1⟩
  refine ⟨J, G1, ρ, st1, w.go x1 j1, (post_bindD h1).imp ?_⟩
  rintro y H2 ⟨d2, st2, G2, _, x2, j2, r2, h2⟩
  obtain ⟨k, e, h3⟩ := post_bindL h2
  refine ⟨J, G2, d1, d2, k, x2.le, r1.mono x2.gg, r2, e, k, rfl, ?_⟩
  cases k with
  | false => exact iteF (post_pure h3 j2 _ G2 H2 (Ext.refl x2.le) same_refl (.bl false))
  | true =>
    refine iteT ⟨J, G2, ρ, st2, (w.go x1 j1).go x2 j2, (post_bindD h3).imp ?_⟩
    rintro z H3 ⟨d3, st3, G3, _, x3, j3, r3, h4⟩
    obtain ⟨d, e, k⟩ := post_lift h4 j3
    cases q : cmpD p d2 d3 with
    | none => rw [q] at e; cases e
    | some t =>
      rw [q] at e; cases e
      exact ⟨J, G3, d2, d3, t, x3.le, r2.mono x3.gg, r3, q, k _ G3 _ (Ext.refl x3.le) same_refl (.bl t)⟩
theorem pt_chainD (hu : X.A.units + 64 < cLine) {o p : COp} (ha : PE X a (tD X.K mg W fa)) (hb : PE X b (tD X.K mg W fb)) (hc : PE X c (tD X.K mg W fc)) (hm : lastMarks [cop o, cop p] [b, c] = false) :
    PT X (.Compare a [cop o, cop p] [b, c] pos) (tT X.K mg W (fChain o p fa fb fc)) := by
  refine PT.of (pt_chain (op_cmp (mg := mg) hu o) (op_cmp (mg := mg) hu p) ha hb hc hm) ?_
  rintro σ H Q ⟨J, G, ρ, st, w, h⟩
  simp only [tst, fChain, M.bind_assoc] at h
  refine ⟨J, G, ρ, st, w, (post_bindD h).imp ?_⟩
  rintro x H1 ⟨d1, st1, G1, _, x1, j1, r1, h1⟩
  refine ⟨J, G1, ρ, st1, w.go x1 j1, (post_bindD h1).imp ?_⟩
  rintro y H2 ⟨d2, st2, G2, _, x2, j2, r2, h2⟩
  obtain ⟨k, e, h3⟩ := post_bindL h2
  refine ⟨J, G2, d1, d2, k, x2.le, r1.mono x2.gg, r2, e, k, rfl, ?_⟩
  cases k with
  | false =>
    have h3 : Post X.K mg J G2 H2 σ W (fun _ (a b : Bool) => a = b) Q (M.pure false st2) := h3
    exact iteF ⟨false, rfl, post_pure h3 j2 _ G2 H2 (Ext.refl x2.le) same_refl rfl⟩
  | true =>
    have h3 : Post X.K mg J G2 H2 σ W (fun _ (a b : Bool) => a = b) Q (M.bind (M.bind (fc ρ) fun z => lift ((cmpD p d2 z).map .bl)) (fun x => lift (truD x)) st2) := h3
    rw [M.bind_assoc] at h3
    refine iteT ⟨J, G2, ρ, st2, (w.go x1 j1).go x2 j2, (post_bindD h3).imp ?_⟩
    rintro z H3 ⟨d3, st3, G3, _, x3, j3, r3, h4⟩
    obtain ⟨d, e, h5⟩ := post_bindL h4
    cases q : cmpD p d2 d3 with
    | none => rw [q] at e; cases e
    | some t =>
      rw [q] at e; cases e
      obtain ⟨t', e', k⟩ := post_lift h5 j3
      cases e'
      exact ⟨J, G3, d2, d3, t, x3.le, r2.mono x3.gg, r3, q, t, rfl, k _ G3 _ (Ext.refl x3.le) same_refl rfl⟩
end
end DE
/-! Defs that run where no repr is under way -/
namespace DE
open PySem PySem.Spec PyProof.Rows L2
/-- room, and nothing shown is under way -/
structure RoomG (k : Nat) (A : Around) : Prop where
  rm : Room k A
  gd : A.guards = some []
theorem RoomG.mono {j k : Nat} {A : Around} (r : RoomG k A) (h : j ≤ k) : RoomG j A := ⟨r.rm.mono h, r.gd⟩
/-- what a def keeps, wherever there is room and no repr under way -/
structure FnG (P : Program) (w : World) (K : PySem.W.Frag) (mg : Str → Option Value) (base : Heap) (CX : CXT) (k : Nat) (f : Addr) (fd : FuncData) (ps : List Str) (sp : Sp) : Prop where
  many : ∀ {vs H Q E}, sp vs H Q E → ps.length = vs.length
  go : ∀ {A : Around} {outer : List PySem.Env} {s : Shared} {H : Hp} {args : Args} {us : List Value} {vs : List V} {Q : VK} {E : XK}, RoomG k A → Env0 P w K mg base A outer s H → BindsTo s fd args (ps.zip us) → Vals vs us →
    sp vs H Q E → codeAny (model P w) A (.call (.ref f) args) (CR CX outer P w H s Q E) s
/-- the call's end, for a body -/
theorem back {X : Cx} {CX : CXT} {pins : List (Addr × Obj)} {σ : L2.St} {H : Hp} {s s' : Shared} {Q : VK} {E : XK} {r : Result} (I : Inv X pins σ H s) (hx : ∀ e, CX X.stack H s E e s' → X.xe e s') (h : CR CX X.stack X.prog X.w H s Q E r s') :
    match r with
    | .ok (.ret u) => EP X pins σ Q u s'
    | .ok _ => False
    | .error e => X.xe e s' := by
  rcases r with e | fl
  · exact hx e h
  · cases fl with
    | ret u => exact I.after h
    | _ => exact h
section
variable {X : Cx} {CX : CXT} {k : Nat} {f : Addr} {fd : FuncData} {ps : List Str} {sp : Sp} {E : L2.St → XK} {x : Str} {p pos : Pos} {e : Expr} {es : List Expr} {t : TA}
theorem goG {pins : List (Addr × Obj)} {σ : L2.St} {H : Hp} {s : Shared} {Q : VK} {us ws : List Value} {kw : List (Str × Value)} {vs : List V} (F : FnG X.prog X.w X.K X.mg X.base CX k f fd ps sp) (hr : RoomG k X.A) (hx : PassesAt CX X σ (E σ)) (I : Inv X pins σ H s)
    (hb : BindsTo s fd ⟨us, kw⟩ (ps.zip ws)) (r : Vals vs ws) (h : sp vs H Q (E σ)) : wpAny (model X.prog X.w) X.A (call (.ref f) us kw) (EP X pins σ Q) X.xe s := by
  refine wpAny_call (codeAny_mono (F.go hr I.env0 hb r h) fun r s' hq => ?_)
  have z := back I (fun e c => hx pins H s e s' I c) hq
  rcases r with e | fl
  · exact z
  · cases fl <;> first | exact z | exact z.elim
theorem pe_callG (F : FnG X.prog X.w X.K X.mg X.base CX k f fd ps sp) (hr : RoomG k X.A) (hg : Gl X x) (hm : X.mg x = some (.ref f)) (hk : PySem.W.keepIn X.K (.ref f) = true) (hb : Binds X.K fd ps []) (hx : ∀ σ, PassesAt CX X σ (E σ)) (ha : PA X (e :: es) t)
    (hdb : (x == ("__debug__" : Str)) = false) (he : starEach (e :: es) X.env = (false, eval e X.env) :: starEach es X.env) (hpl : (backTo pos (starEach es X.env)).any (·.1) = false) : PE X (.Call (.Name x p) (e :: es) [] pos) (tCallS sp E t) := by
  constructor
  intro pins s σ H Q I h
  refine wpAny_Call_Name_kw (ld_glob I hg hm ?_ hdb)
  have run := ha.run pos pins s σ H _ I h
  refine PySem.W.callWith_K (h₀ := X.base) I.ok.mod.kin hk (thn run ?_) he hpl
  rintro us s1 ⟨vs, H1, I1, r, q⟩
  refine ⟨I1.kIn, goG (ws := us) F hr (hx σ) I1 ?_ r q⟩
  have n : us.length = ps.length := by rw [F.many q, r.length]
  have b := hb s1 us I1.kIn (by simpa using n)
  rwa [List.append_nil] at b
end
section
variable {P : Program} {w : World} {K : PySem.W.Frag} {mg : Str → Option Value} {base : Heap} {x qual : Str} {params : Arguments} {body : List Stmt} {scope : Scope} {dvs : List V} {kws : List (Str × V)} {f : Addr} {fd : FuncData}
theorem deeper_gd {A : Around} {env : PySem.Env} (h : A.guards = some []) : (A.deeper env).guards = some [] := h
theorem fn_okG {CX : CXT} {N ps : List Str} {k : Nat} {sp : Sp} (F : FunD K x qual params body scope dvs kws f fd) (S : FnScope N ps scope) (len : ∀ vs H Q E, sp vs H Q E → vs.length = ps.length)
    (hbody : ∀ (cdv : Value) (A : Around) (outer : List PySem.Env) (s : Shared) (H : Hp) (vs : List V) (Q : VK) (E : XK), RoomG k (A.deeper (envOfC qual scope s.heap.objs.size f cdv)) → sp vs H Q E →
      ∃ t, PSs (cxOf CX P w K mg base N qual scope f cdv A outer s H E) body t ∧ t { nx := fun _ H' => Q .non H', rt := Q } (L2.start N vs) H) : FnG P w K mg base CX (k + 1) f fd ps sp := by
  obtain ⟨oc, od, dV, kV, doc, pm, an, cdv, ct, osl, rfl, lk, hcd, _, _⟩ := F.ex
  constructor
  · exact fun h => (len _ _ _ _ h).symm
  intro A outer s H args us vs Q E hr e0 hb rv h
  have keep : ∀ b o, base.get? b = some o → s.heap.get? b = some o := fun b o e => (e0.bs b o e).1
  have inK := e0.mod.kin.keeps keep
  have kinds : ∀ y ∈ ps.zip us, scope.names.lookup y.1 = some .local ∨ (scope.names.lookup y.1 = some .cell ∧ ((cellsFrom (s.heap.objs.size + 1) scope.names []).lookup y.1).isSome = true) := by
    rintro ⟨n, v⟩ hy
    exact (S.par n (List.of_mem_zip hy).1).imp id fun q => ⟨q, PySem.W.cellsFrom_some _ _ _ (.inl q)⟩
  refine codeAny_call_function hr.rm.depth (inK _ _ lk) rfl S.co S.gen rfl (PySem.W.codeRec_of inK hcd) (hb _ _ _ _ ?_)
  refine wpAny_newFunctionEnv_cells S.kind kinds ?_
  rintro env rfl s1 y
  refine ⟨(e0.mod.nolimit.keeps keep).keeps y.toInCall.keep, codeAny_func ?_⟩
  have I : Inv (cxOf CX P w K mg base N qual scope f cdv A outer s H E) [] (L2.start N vs) H s1 := inv_start S hr.rm.hd e0 (len _ _ _ _ h) rv y
  obtain ⟨t, ht, q⟩ := hbody cdv A outer s H vs Q E ⟨hr.rm.deeper _, deeper_gd hr.gd⟩ h
  refine wpAny_mono (ht.run _ _ _ _ _ I q) ?_ fun _ _ z => z
  intro fl s' z
  cases fl with
  | ret u =>
    obtain ⟨v, _, H', J, r, q⟩ := z
    exact ⟨v, H', J.os, J.bare, J.base, J.hok, r, q⟩
  | next =>
    obtain ⟨_, H', J, q⟩ := z
    exact ⟨.non, H', J.os, J.bare, J.base, J.hok, rfl, q⟩
  | brk => obtain ⟨_, _, _, q⟩ := z; exact q.elim
  | cont => obtain ⟨_, _, _, q⟩ := z; exact q.elim
end
section
variable {P : Program} {w : World} {K : PySem.W.Frag} {mg mb : Str → Option Value}
/-- the script's object, behind the top -/
abbrev scrO (vs : List Value) : Obj := { cls := .type "list", data := .seq vs.toArray }
/-- nothing but the script is told of (and it is not, where the module itself holds it) -/
def scrH (K : PySem.W.Frag) (a : Addr) (vs : List Value) (ns : List Int) : Hp := fun b => if b = a ∧ K.lookup a = none then some (.frz (scrO vs) (.lst (ns.map V.int))) else none
theorem scrH_some {a b : Addr} {vs : List Value} {ns : List Int} {u : HO} (h : scrH K a vs ns b = some u) : b = a ∧ K.lookup a = none ∧ u = .frz (scrO vs) (.lst (ns.map V.int)) := by
  unfold scrH at h
  split at h
  · rename_i c
    exact ⟨c.1, c.2, (Option.some.inj h).symm⟩
  · cases h
theorem law_callG {CX : CXT} {k : Nat} {fa a : Addr} {fd : FuncData} {x : Str} {sp : Sp} {s : Shared} {vs : List Value} {ns : List Int} (KX : K.In s.heap) (hns : s.heap.Ns mainGlobals mg) (hb : s.heap.Ns builtinsNs mb) (hbb : ∀ x : Str, x ≠ "__name__" → mb x = bootBuiltins x)
    (hlim : s.heap.NoLimit) (hgen : s.gens = #[]) (ha : s.heap.get? a = some (scrO vs)) (hi : IntsAre vs ns) (hl : ns.length ≤ sizeLine) (hr : Room k callerA) (F : ∀ base : Heap, K.In base → base.Ns mainGlobals mg → FnG P w K mg base CX k fa fd [x] sp)
    (hbind : ∀ (s : Shared) (u : Value), BindsTo s fd ⟨[u], []⟩ [(x, u)]) (hsp : ∀ H : Hp, Only H → SqL K H a (ns.map V.int) → sp [.ref a] H (fun v _ => v = .bl true) fun _ _ _ => False) (hCX : ∀ H e s', CX [] H s (fun _ _ _ => False) e s' → False) :
    codeAny (model P w) callerA (.call (.ref fa) ⟨[.ref a], []⟩) (fun r s' => r = .ok (.ret (.bool true)) ∧ OldK s.heap s'.heap ∧ s'.os = s.os ∧ AllBare s'.gens) s := by
  have rv := vals_ints hi
  have told : ∀ {b : Addr} {u : HO}, scrH K a vs ns b = some u → s.heap.get? b = some (scrO vs) := fun {b u} h => by rw [(scrH_some h).1]; exact ha
  have only : Only (scrH K a vs ns) := fun b => by
    rcases e : scrH K a vs ns b with _ | u
    · exact .inl rfl
    · exact .inr ⟨_, _, by rw [(scrH_some e).2.2]⟩
  have ok : HOk P w (scrH K a vs ns) s.heap := fun b u h => by
    obtain ⟨rfl, _, rfl⟩ := scrH_some h
    exact ⟨ha, by rw [List.length_map]; exact hl, vs, _, rv, ha⟩
  have sq : SqL K (scrH K a vs ns) a (ns.map V.int) := by
    rcases e : K.lookup a with _ | o
    · exact .inl (.inr ⟨scrO vs, if_pos ⟨rfl, e⟩⟩)
    · have same := KX a o e
      rw [ha] at same
      cases same
      exact .inr ⟨_, vs.toArray, _, e, rfl, rfl, rfl, by rw [List.size_toArray, hi.length]; exact hl, by simpa using rv⟩
  have un0 : ∀ {b : Addr} {o : Obj}, s.heap.get? b = some o → o.data ≠ (scrO vs).data → scrH K a vs ns b = none := fun {b o} e n => by
    rcases c : scrH K a vs ns b with _ | u
    · rfl
    · have := told c
      rw [e] at this
      cases this
      exact absurd rfl n
  have nss : ∀ {b : Addr} {m : Str → Option Value}, s.heap.Ns b m → (hidT s.heap (scrH K a vs ns)).Ns b m := by
    rintro b m ⟨o, es, ep, e, d, r⟩
    exact ⟨o, es, ep, hidT_get e (un0 e (by rw [d]; exact fun z => by cases z)), d, r⟩
  have inK : K.In (hidT s.heap (scrH K a vs ns)) := fun b o e => by
    refine hidT_get (KX b o e) ?_
    rcases c : scrH K a vs ns b with _ | u
    · rfl
    · obtain ⟨rfl, n, _⟩ := scrH_some c
      rw [n] at e
      cases e
  obtain ⟨mc, l1, l2⟩ := hlim
  have md : Mod K mg (hidT s.heap (scrH K a vs ns)) := ⟨inK, nss hns, ⟨mb, nss hb, hbb⟩, ⟨mc, nss l1, l2⟩⟩
  have noF : ∀ {b : Addr}, b ∈ frs [] → False := fun h => by cases h
  have e0 : Env0 P w K mg (hidT s.heap (scrH K a vs ns)) callerA [] s (scrH K a vs ns) := ⟨rfl, md, fun b o e => of_hidT e, Nat.le_of_eq (hidT_size _ _), trivial, fun b h => (noF h).elim, ok, .of_eq hgen⟩
  have run := (F _ inK (nss hns)).go (us := [.ref a]) (vs := [.ref a]) ⟨hr, rfl⟩ e0 (hbind s (.ref a)) (.cons rfl .nil) (hsp _ only sq)
  refine codeAny_mono run fun r s' h => ?_
  rcases r with e | fl
  · exact (hCX _ e s' h).elim
  · cases fl with
    | ret u =>
      obtain ⟨v, H', os, bare, un, ok', rel, q⟩ := h
      cases (show v = .bl true from q)
      cases (show u = .bool true from rel)
      refine ⟨rfl, OldK.of_keep fun b o e => ?_, os, bare⟩
      rcases c : scrH K a vs ns b with _ | z
      · exact un.keep b o e c (fun h => (noF h).elim) (by simp)
      · obtain ⟨rfl, _, rfl⟩ := scrH_some c
        obtain ⟨g, _⟩ := ok' _ _ (un.frzs _ _ _ c)
        rw [ha] at e
        cases e
        exact g
    | _ => exact h.elim
end
theorem walk_ofG {l : PySem.W.OpenLaw} {n k : Nat} {q : Program} {loose : List Str} {XP : (Str → Option Value) → Heap → Prop} {YP : World → Heap → Prop} {d : DefRec} {CX : CXT} {x : Str} (hn : l.most = some n) (hn2 : n ≤ sizeLine) (hdf : d.params.defaults = []) (hr : Room k callerA)
    (F : ∀ (w : World) (mg : Str → Option Value) (fa : Addr) (h : Heap), YP w h → h.Ns mainGlobals mg → mg d.name = some (.ref fa) → ∃ (K : PySem.W.Frag) (fd : FuncData) (sp : Sp), K.In h ∧ (∀ (s : Shared) (u : Value), BindsTo s fd ⟨[u], []⟩ [(x, u)]) ∧
      (∀ (H : Hp) (a : Addr) (ns : List Int), ns.length ≤ n → Only H → SqL K H a (ns.map V.int) → sp [.ref a] H (fun v _ => v = .bl true) fun _ _ _ => False) ∧ ∀ base : Heap, K.In base → base.Ns mainGlobals mg → FnG l.prog w K mg base CX k fa fd [x] sp)
    (hCX : ∀ (H : Hp) (s : Shared) (e : Value) (s' : Shared), CX [] H s (fun _ _ _ => False) e s' → False) : PySem.W.WalkO q loose XP YP l.row.toRowW d [] (fun f vs => PySem.call f vs) := by
  refine Att.attach_call hn hdf ?_
  intro w s₀ s₁ mg mb fa o pm cd doc a vs ns G Y ho hd hcd hmg hobj hints hlen hgen
  obtain ⟨K, fd, sp, KX, hb, hsp, hF⟩ := F w mg fa _ Y G.T.g hmg
  exact law_callG KX G.T.g G.T.b G.T.builtins G.T.nolimit hgen hobj hints (Nat.le_trans hlen hn2) hr hF hb (fun H => hsp H a ns hlen) fun H => hCX H s₁
end DE
/-! Expressions: rows, items, calls -/
namespace DE
open PySem PySem.Spec PyProof.Rows L2
def isStar : Expr → Bool
  | .Starred _ _ => true
  | _ => false
theorem star1 {e : Expr} {es : List Expr} {env : PySem.Env} (h : isStar e = false) : starEach (e :: es) env = (false, eval e env) :: starEach es env := by
  cases e <;> first | rfl | cases h
theorem star_any {env : PySem.Env} {pos : Pos} : ∀ {es : List Expr}, (es.all fun e => !isStar e) = true → (backTo pos (starEach es env)).any (·.1) = false
  | [], _ => rfl
  | e :: es, h => by
    have h' : ((!isStar e) && es.all fun e => !isStar e) = true := h
    obtain ⟨h1, h2⟩ := Bool.and_eq_true_iff.mp h'
    have h1 : isStar e = false := by cases q : isStar e <;> simp [q] at h1 ⊢
    rw [star1 h1]
    show (false || (backTo pos (starEach es env)).any (·.1)) = false
    rw [star_any h2]
    rfl
section
variable {X : Cx} {mg : MG} {W : WX} {pos : Pos} {a b c i e : Expr} {fa fb fc fe : Env → M D} {es rest : List Expr} {fs : Env → M (List D)}
theorem pa_nilD : PA X [] (tDs X.K mg W fun _ => M.pure []) := by
  refine PA.of pa_nil ?_
  rintro σ H Q ⟨J, G, ρ, st, w, h⟩
  exact post_pure h w.j [] G H (Ext.refl w.le) same_refl .nil
def fCons (fe : Env → M D) (fs : Env → M (List D)) : Env → M (List D) := fun ρ => M.bind (fe ρ) fun x => M.bind (fs ρ) fun xs => M.pure (x :: xs)
theorem pa_consD (hn : isStar e = false) (he : PE X e (tD X.K mg W fe)) (hs : PA X es (tDs X.K mg W fs)) : PA X (e :: es) (tDs X.K mg W (fCons fe fs)) := by
  refine PA.of (pa_cons he hs (star1 hn)) ?_
  rintro σ H Q ⟨J, G, ρ, st, w, h⟩
  refine ⟨J, G, ρ, st, w, (post_bindD h).imp ?_⟩
  rintro x H1 ⟨d1, st1, G1, _, x1, j1, r1, h1⟩
  refine ⟨J, G1, ρ, st1, w.go x1 j1, (post_bindDs h1).imp ?_⟩
  rintro y H2 ⟨d2, st2, G2, _, x2, j2, r2, h2⟩
  exact post_pure h2 j2 (x :: y) G2 H2 (Ext.refl x2.le) same_refl (.cons (r1.mono x2.gg) r2)
theorem pe_tupD {k : Nat} (hs : PA X es (tDs X.K mg W fs)) (hl : ∀ ρ st ds st1, fs ρ st = .ok ds st1 → ds.length ≤ 1000000) : PE X (.Tuple es k pos) (tD X.K mg W fun ρ => M.bind (fs ρ) fun ds => M.pure (.tup ds)) := by
  refine PE.of (pe_tup hs) ?_
  rintro σ H Q ⟨J, G, ρ, st, w, h⟩
  refine ⟨J, G, ρ, st, w, (post_bindDs h).imp ?_⟩
  rintro x H1 ⟨d1, st1, G1, e1, x1, j1, r1, h1⟩
  refine ⟨by rw [← r1.length]; exact small_line (hl _ _ _ _ e1), fun p hp => ?_⟩
  exact post_pure h1 j1 _ _ _ (Ext.new x1.le hp) (Same.upd hp) (rep_tup_new (free_of x1.le hp) r1)
theorem pe_lstD (hs : PA X es (tDs X.K mg W fs)) (hl : ∀ ρ st ds st1, fs ρ st = .ok ds st1 → ds.length ≤ 1000000) : PE X (.List es pos) (tD X.K mg W fun ρ => M.bind (fs ρ) fun ds => M.pure (.lst ds)) := by
  refine PE.of (pe_lst hs) ?_
  rintro σ H Q ⟨J, G, ρ, st, w, h⟩
  refine ⟨J, G, ρ, st, w, (post_bindDs h).imp ?_⟩
  rintro x H1 ⟨d1, st1, G1, e1, x1, j1, r1, h1⟩
  refine ⟨by rw [← r1.length]; exact small_line (hl _ _ _ _ e1), fun p hp => ?_⟩
  exact post_pure h1 j1 _ _ _ (Ext.new x1.le hp) (Same.upd hp) (rep_lst_new (free_of x1.le hp) r1)
/-! ### a[i] -/
theorem atI_reps {K : PySem.W.Frag} {J : Option Addr} {G : Hp} {ds : List D} {vs : List V} {i : Int} {d : D} (r : Reps K mg J G ds vs) (h : ((ixN ds.length i).bind fun j => ds[j]?) = some d) : ∃ v, atI vs i = some v ∧ Rep K mg J G d v := by
  unfold atI
  rw [← r.length]
  cases q : ixN ds.length i with
  | none => rw [q] at h; cases h
  | some j =>
    rw [q] at h
    obtain ⟨v, h1, h2⟩ := r.get (show ds[j]? = some d from h)
    exact ⟨v, h1, h2⟩
theorem ix_D : IxR X (fun x y H Q => ∃ (J : Option Addr) (G : Hp) (a b d : D) (st : S), Same G H ∧ JOk X.K mg J G H st ∧ Rep X.K mg J G a x ∧ Rep X.K mg J G b y ∧ idxM a b st = .ok d st ∧ ∀ v, Rep X.K mg J G d v → Q v H) := by
  intro value slice pins s σ H x y v u Q I rx ry h hs
  obtain ⟨J, G, a, b, d, st, le, j, ra, rb, hd, k⟩ := h
  unfold idxM at hd
  split at hd
  · cases ra with
    | jug hj =>
      subst hj
      cases rb with
      | int n =>
        obtain ⟨_, vs, hJ, rj⟩ := j
        split at hd
        · rename_i d' e
          cases hd
          obtain ⟨v', e', r'⟩ := atI_reps rj e
          exact ix_list value slice pins s σ H _ _ v u Q I rx ry ⟨_, _, _, _, rfl, rfl, .inl (.inl hJ), e', k _ r'⟩ hs
        · cases hd
  · cases e : idxD a b with
    | none => rw [e] at hd; cases hd
    | some d' =>
      rw [e] at hd
      cases hd
      unfold idxD at e
      split at e
      · cases ra with
        | lst hl rl =>
          cases rb with
          | int n =>
            obtain ⟨v', e', r'⟩ := atI_reps rl e
            exact ix_list value slice pins s σ H _ _ v u Q I rx ry ⟨_, _, _, _, rfl, rfl, .inl (sameR le hl), e', k _ r'⟩ hs
      · cases ra with
        | tup hl rl =>
          cases rb with
          | int n =>
            obtain ⟨v', e', r'⟩ := atI_reps rl e
            exact ix_tup value slice pins s σ H _ _ v u Q I rx ry ⟨_, _, _, _, rfl, rfl, sameT le hl, e', k _ r'⟩ hs
      · rename_i z n _
        cases ra
        cases rb
        split at e
        · rename_i hz
          cases q : (ixN z.cps.toList.length n).bind fun j => z.cps.toList[j]? with
          | none => rw [q] at e; cases e
          | some c =>
            rw [q] at e
            cases e
            exact ix_str value slice pins s σ H _ _ v u Q I rx ry ⟨z, n, c, rfl, rfl, small_line (of_decide_eq_true hz), q, k _ (.str _)⟩ hs
        · cases e
      · cases e
theorem idxM_st {a b d : D} {st st1 : S} (h : idxM a b st = .ok d st1) : st1 = st := by
  unfold idxM at h
  split at h
  · split at h
    · cases h; rfl
    · cases h
  · cases e : idxD a b with
    | none => rw [e] at h; cases h
    | some d' => rw [e] at h; cases h; rfl
theorem idxM_noerr {a b : D} {st st1 : S} {e : Ex} (h : idxM a b st = .err e st1) : False := by
  unfold idxM at h
  split at h
  · split at h <;> cases h
  · cases e' : idxD a b with
    | none => rw [e'] at h; cases h
    | some d' => rw [e'] at h; cases h
theorem pe_idxD (ha : PE X a (tD X.K mg W fa)) (hb : PE X b (tD X.K mg W fb)) (hs : PlainIx b) : PE X (.Subscript a b pos) (tD X.K mg W fun ρ => M.bind (fa ρ) fun x => M.bind (fb ρ) fun y => idxM x y) := by
  refine PE.of (pe_ix (ix_D (mg := mg)) ha hb hs) ?_
  rintro σ H Q ⟨J, G, ρ, st, w, h⟩
  refine ⟨J, G, ρ, st, w, (post_bindD h).imp ?_⟩
  rintro x H1 ⟨d1, st1, G1, _, x1, j1, r1, h1⟩
  refine ⟨J, G1, ρ, st1, w.go x1 j1, (post_bindD h1).imp ?_⟩
  rintro y H2 ⟨d2, st2, G2, _, x2, j2, r2, h2⟩
  cases e : idxM d1 d2 st2 with
  | stuck => rw [e] at h2; exact h2.elim
  | err x st3 => exact (idxM_noerr e).elim
  | ok d st3 =>
    have := idxM_st e
    subst this
    rw [e] at h2
    exact ⟨J, G2, d1, d2, d, st3, x2.le, j2, r1.mono x2.gg, r2, e, fun v r => h2 v G2 H2 (Ext.refl x2.le) j2 r⟩
/-! ### a[lo:hi] -/
theorem cut_reps {K : PySem.W.Frag} {J : Option Addr} {G : Hp} {ds : List D} {vs : List V} {lo hi : Option Int} (r : Reps K mg J G ds vs) : Reps K mg J G (slcL ds lo hi) (cutV vs lo hi) := by
  unfold slcL cutV
  rw [r.length]
  exact (r.drop _).take _
theorem sl_D : SlR X (fun x lo hi H Q => ∃ (J : Option Addr) (G : Hp) (a d : D), Same G H ∧ Rep X.K mg J G a x ∧ slcD a lo hi = some d ∧ ∀ (v : V) (G' H' : Hp), Ext J G H G' H' → Same H H' → Rep X.K mg J G' d v → Q v H') := by
  intro pins s σ H x v vl vu lo hi sl Q I rx hs pl pu h
  obtain ⟨J, G, a, d, le, ra, hd, k⟩ := h
  unfold slcD at hd
  split at hd
  · cases hd
    cases ra with
    | lst hl rl => exact sl_list pins s σ H _ v vl vu _ _ sl Q I rx hs pl pu ⟨_, _, rfl, .inl (sameR le hl), fun p hp => k _ _ _ (Ext.new le hp) (Same.upd hp) (rep_lst_new (free_of le hp) (cut_reps rl))⟩
  · cases hd
    cases ra with
    | klst hl rl => exact sl_list pins s σ H _ v vl vu _ _ sl Q I rx hs pl pu ⟨_, _, rfl, sameL le hl, fun p hp => k _ _ _ (Ext.new le hp) (Same.upd hp) (rep_lst_new (free_of le hp) (cut_reps rl))⟩
  · split at hd
    · cases hd
    · rename_i hz
      cases hd
      cases ra with
      | tup hl rl =>
        refine sl_tup pins s σ H _ v vl vu _ _ sl Q I rx hs pl pu ⟨_, _, rfl, sameT le hl, ?_, fun p hp => k _ _ _ (Ext.new le hp) (Same.upd hp) (rep_tup_new (free_of le hp) (cut_reps rl))⟩
        rw [← rl.length]
        rintro ⟨z1, z2⟩
        apply hz
        rw [decide_eq_true z1, decide_eq_true z2]
        rfl
  · cases hd
/-- a part of a slice -/
def fOpt : Option (Env → M D) → Env → M (Option Int)
  | none => fun _ => M.pure none
  | some f => fun ρ => M.bind (f ρ) fun x => lift ((isInt x).map some)
def POk (X : Cx) (mg : MG) (W : WX) : Option Expr → Option (Env → M D) → Prop
  | none, none => True
  | some e, some f => PE X e (tD X.K mg W f)
  | _, _ => False
def tDo (K : PySem.W.Frag) (mg : MG) (W : WX) (f : Env → M (Option Int)) (σ : L2.St) (H : Hp) (Q : Option Int → Hp → Prop) : Prop := tDG K mg W (fun _ _ (a b : Option Int) => a = b) f σ H Q
theorem po_D {lo : Option Expr} {fl : Option (Env → M D)} (h : POk X mg W lo fl) : PO X lo (tDo X.K mg W (fOpt fl)) := by
  cases lo with
  | none =>
    cases fl with
    | none =>
      refine ⟨fun pins s σ H Q I h => ?_⟩
      refine po_none.run pins s σ H Q I ?_
      obtain ⟨J, G, ρ, st, w, h⟩ := h
      exact post_pure h w.j none G H (Ext.refl w.le) same_refl rfl
    | some f => exact h.elim
  | some e =>
    cases fl with
    | none => exact h.elim
    | some f =>
      have h : PE X e (tD X.K mg W f) := h
      refine ⟨fun pins s σ H Q I hq => ?_⟩
      obtain ⟨J, G, ρ, st, w, hq⟩ := hq
      refine (po_some h).run pins s σ H Q I ⟨J, G, ρ, st, w, (post_bindD hq).imp ?_⟩
      rintro x H1 ⟨d1, st1, G1, _, x1, j1, r1, h1⟩
      obtain ⟨o, e, k⟩ := post_lift h1 j1
      cases r1 with
      | int i =>
        cases e
        exact ⟨i, rfl, k _ G1 H1 (Ext.refl x1.le) same_refl rfl⟩
      | _ => cases e
theorem pe_slcD {lo hi : Option Expr} {p2 : Pos} {fl fh : Option (Env → M D)} (ha : PE X a (tD X.K mg W fa)) (hl : POk X mg W lo fl) (hh : POk X mg W hi fh) :
    PE X (.Subscript a (.Slice lo hi none p2) pos) (tD X.K mg W fun ρ => M.bind (fa ρ) fun x => M.bind (fOpt fl ρ) fun l => M.bind (fOpt fh ρ) fun h => lift (slcD x l h)) := by
  refine PE.of (pe_slice (sl_D (mg := mg)) ha (po_D hl) (po_D hh)) ?_
  rintro σ H Q ⟨J, G, ρ, st, w, h⟩
  refine ⟨J, G, ρ, st, w, (post_bindD h).imp ?_⟩
  rintro x H1 ⟨d1, st1, G1, _, x1, j1, r1, h1⟩
  refine ⟨J, G1, ρ, st1, w.go x1 j1, (post_bind (Rp := fun _ (a b : Option Int) => a = b) h1).imp ?_⟩
  rintro l H2 ⟨l, st2, G2, _, x2, j2, rfl, h2⟩
  refine ⟨J, G2, ρ, st2, (w.go x1 j1).go x2 j2, (post_bind (Rp := fun _ (a b : Option Int) => a = b) h2).imp ?_⟩
  rintro u H3 ⟨u, st3, G3, _, x3, j3, rfl, h3⟩
  obtain ⟨d, e, k⟩ := post_lift h3 j3
  exact ⟨J, G3, d1, d, x3.le, (r1.mono x2.gg).mono x3.gg, e, k⟩
/-! ### calls -/
/-- what a def of the module promises: it takes n arguments and does what F says -/
def spD (K : PySem.W.Frag) (mg : MG) (n : Nat) (F : List D → M D) : Sp := fun vs H Q E => ∃ (J : Option Addr) (G : Hp) (ds : List D) (st : S), Same G H ∧ JOk K mg J G H st ∧ Reps K mg J G ds vs ∧ ds.length = n ∧
  Post K mg J G H [] (fun cls dd _ H' => E cls dd H') (Rep K mg J) Q (F ds st)
structure FnD (X : Cx) (mg : MG) (x : Str) (n : Nat) (F : List D → M D) : Prop where
  ok : ∃ (k : Nat) (f : Addr) (fd : FuncData) (ps : List Str), FnG X.prog X.w X.K X.mg X.base (L2.CX X.prog X.w) k f fd ps (spD X.K mg n F) ∧ RoomG k X.A ∧ X.mg x = some (.ref f) ∧ PySem.W.keepIn X.K (.ref f) = true ∧ Binds X.K fd ps []
theorem Post.wish {K : PySem.W.Frag} {J : Option Addr} {G H : Hp} {σ σ' : L2.St} {α β : Type} {Rp : Hp → α → β → Prop} {Q : β → Hp → Prop} {W W' : WX} {r : Res α} (h : Post K mg J G H σ W Rp Q r) (k : ∀ c d H', W c d σ H' → W' c d σ' H') : Post K mg J G H σ' W' Rp Q r := by
  cases r with
  | ok a st => exact h
  | err e st => exact fun c d G' H' x j r => k c d H' (h c d G' H' x j r)
  | stuck => exact h
theorem pe_callD {x : Str} {p : Pos} {n : Nat} {F : List D → M D} (tk : Takes X W) (Fn : FnD X mg x n F) (hg : Gl X x) (hs : PA X (e :: es) (tDs X.K mg W fs)) (hn : ∀ ρ st ds st1, fs ρ st = .ok ds st1 → ds.length = n)
    (hdb : (x == ("__debug__" : Str)) = false) (h1 : isStar e = false) (h2 : (es.all fun e => !isStar e) = true) : PE X (.Call (.Name x p) (e :: es) [] pos) (tD X.K mg W fun ρ => M.bind (fs ρ) fun ds => F ds) := by
  obtain ⟨k, f, fd, ps, F0, hr, hm, hk, hb⟩ := Fn.ok
  refine PE.of (pe_callG F0 hr hg hm hk hb (fun σ => passAt tk σ) hs hdb (star1 h1) (star_any h2)) ?_
  rintro σ H Q ⟨J, G, ρ, st, w, h⟩
  refine ⟨J, G, ρ, st, w, (post_bindDs h).imp ?_⟩
  rintro x H1 ⟨d1, st1, G1, e1, x1, j1, r1, h1⟩
  exact ⟨J, G1, d1, st1, x1.le, j1, r1, hn _ _ _ _ e1, Post.wish h1 fun _ _ _ z => z⟩
/-- a built-in function or type, by values -/
def rCall (K : PySem.W.Frag) (mg : MG) (f : List D → Option D) : List V → Hp → VK → Prop := rN K mg f
theorem tCB_D {f : List D → Option D} {σ : L2.St} {H : Hp} {Q : VK} (h : tD X.K mg W (fun ρ => M.bind (fs ρ) fun ds => lift (f ds)) σ H Q) : tCB (rN X.K mg f) (tDs X.K mg W fs) σ H Q := by
  obtain ⟨J, G, ρ, st, w, h⟩ := h
  refine ⟨J, G, ρ, st, w, (post_bindDs h).imp ?_⟩
  rintro x H1 ⟨d1, st1, G1, e1, x1, j1, r1, h1⟩
  obtain ⟨d, e, k⟩ := post_lift h1 j1
  exact ⟨J, G1, d1, d, x1.le, r1, e, k⟩
theorem pe_biD {id : String} {x : Str} {p : Pos} {f : List D → Option D} (hc : CallR X (.builtin id) (rN X.K mg f)) (hg : Gl X x) (hm : X.mg x = none) (hv : bootBuiltins x = some (.builtin id)) (hs : PA X (e :: es) (tDs X.K mg W fs))
    (hn : x ≠ "__name__") (hdb : (x == ("__debug__" : Str)) = false) (h1 : isStar e = false) (h2 : (es.all fun e => !isStar e) = true) : PE X (.Call (.Name x p) (e :: es) [] pos) (tD X.K mg W fun ρ => M.bind (fs ρ) fun ds => lift (f ds)) :=
  PE.of (pe_callB hc hg hm hv hs hn hdb (star1 h1) (star_any h2)) fun _ _ _ h => tCB_D h
theorem pe_tyD {T : String} {x : Str} {p : Pos} {f : List D → Option D} (hc : CallR X (.type T) (rN X.K mg f)) (hg : Gl X x) (hm : X.mg x = none) (hv : bootBuiltins x = some (.type T)) (hs : PA X (e :: es) (tDs X.K mg W fs))
    (hn : x ≠ "__name__") (hdb : (x == ("__debug__" : Str)) = false) (h1 : isStar e = false) (h2 : (es.all fun e => !isStar e) = true) : PE X (.Call (.Name x p) (e :: es) [] pos) (tD X.K mg W fun ρ => M.bind (fs ρ) fun ds => lift (f ds)) :=
  PE.of (pe_callTy hc hg hm hv hs hn hdb (star1 h1) (star_any h2)) fun _ _ _ h => tCB_D h
theorem pe_fnD {id : String} {x : Str} {p : Pos} {f : List D → Option D} (hc : CallR X (.builtin id) (rN X.K mg f)) (hg : Gl X x) (hm : X.mg x = some (.builtin id)) (hs : PA X (e :: es) (tDs X.K mg W fs))
    (hdb : (x == ("__debug__" : Str)) = false) (h1 : isStar e = false) (h2 : (es.all fun e => !isStar e) = true) : PE X (.Call (.Name x p) (e :: es) [] pos) (tD X.K mg W fun ρ => M.bind (fs ρ) fun ds => lift (f ds)) :=
  PE.of (pe_callBfun hc hg hm hs hdb (star1 h1) (star_any h2)) fun _ _ _ h => tCB_D h
end
end DE
/-! Built-in functions, isinstance -/
namespace DE
open PySem PySem.Spec PyProof.Rows L2
section
variable {X : Cx} {mg : MG}
theorem reps1 {K : PySem.W.Frag} {J : Option Addr} {G : Hp} {d : D} {vs : List V} (r : Reps K mg J G [d] vs) : ∃ v, vs = [v] ∧ Rep K mg J G d v := by
  cases r with
  | cons a b => cases b; exact ⟨_, rfl, a⟩
theorem reps2 {K : PySem.W.Frag} {J : Option Addr} {G : Hp} {d e : D} {vs : List V} (r : Reps K mg J G [d, e] vs) : ∃ v w, vs = [v, w] ∧ Rep K mg J G d v ∧ Rep K mg J G e w := by
  cases r with
  | cons a b =>
    obtain ⟨w, rfl, h⟩ := reps1 b
    exact ⟨_, _, rfl, a, h⟩
theorem allInt_reps {K : PySem.W.Frag} {J : Option Addr} {G : Hp} : ∀ {ds : List D} {vs : List V} {ns : List Int}, Reps K mg J G ds vs → allInt ds = some ns → vs = ns.map V.int
  | _, _, _, .nil, e => by simp only [allInt] at e; cases e; rfl
  | _, _, _, .cons (d := d) (ds := ds) a b, e => by
    cases d with
    | int i =>
      simp only [allInt] at e
      cases q : allInt ds with
      | none => rw [q] at e; cases e
      | some ns =>
        rw [q] at e
        cases e
        cases a
        rw [allInt_reps b q]
        rfl
    | _ => simp only [allInt] at e; cases e
theorem allBl_reps {K : PySem.W.Frag} {J : Option Addr} {G : Hp} : ∀ {ds : List D} {vs : List V} {ns : List Bool}, Reps K mg J G ds vs → allBl ds = some ns → vs = ns.map V.bl
  | _, _, _, .nil, e => by simp only [allBl] at e; cases e; rfl
  | _, _, _, .cons (d := d) (ds := ds) a b, e => by
    cases d with
    | bl i =>
      simp only [allBl] at e
      cases q : allBl ds with
      | none => rw [q] at e; cases e
      | some ns =>
        rw [q] at e
        cases e
        cases a
        rw [allBl_reps b q]
        rfl
    | _ => simp only [allBl] at e; cases e
/-- what stands behind a built-in's name -/
def biV : BI → Value
  | .repr => .builtin "repr" | .str => .type "str" | .len => .builtin "len" | .abs => .builtin "abs" | .int => .type "int" | .bool => .type "bool" | .gcd => .builtin "math.gcd" | .tuple => .type "tuple" | .list => .type "list"
  | .sum => .builtin "sum" | .all => .builtin "all" | .any => .builtin "any" | .max => .builtin "max" | .min => .builtin "min"
theorem call_reprD (gd : X.A.guards = some []) (hu : X.A.units + 64 < cLine) : CallR X (.builtin "repr") (fun xs H Q => ∃ a d, xs = [V.ref a] ∧ Dp X.K H (.ref a) d ∧ d.showable = true ∧ SeqAt.shaped d = true ∧ d.depth ≤ 60 ∧ d.shown.length ≤ sizeLine ∧ Q (.str d.shown) H) := by
  rintro pins s σ H xs us Q I r ⟨a, d, rfl, hd, hs, hsh, hdp, hz, q⟩
  cases r with
  | cons ru rn =>
    cases rn
    cases ru
    obtain ⟨as, rd⟩ := Dp.reads I d _ _ hd rfl
    unfold SeqAt.shaped at hsh
    simp only [Bool.and_eq_true, decide_eq_true_eq] at hsh
    refine PySem.repr_of_reads' rd hs (fun z => ?_) gd ?_ (fun b o e => e) (fun h' u tk hk => ⟨.str _, H, I.kept (h' := h') (t' := tk) hk, ⟨_, rfl⟩, q⟩) hz
    · rw [PyData.hasDict_of_canLay d hsh.1] at z; cases z
    · omega
theorem call_reprC {X : Cx} (gd : X.A.guards = some []) (hu : X.A.units + 64 < cLine) {pins : List (Addr × Obj)} {σ : L2.St} {H G : Hp} {J : Option Addr} {s : Shared} {d r : D} {v : V} {us : List Value} {Q : VK} (I : Inv X pins σ H s) (le : Same G H) (rv : Rep X.K mg J G d v) (hv : ∃ a, v = .ref a) (ru : Vals [v] us) (h : reprC d = some r)
    (k : ∀ x, r = .str x → Q (.str x) H) : wpAny (model X.prog X.w) X.A (call (.builtin "repr") us) (EP X pins σ Q) X.xe s := by
  unfold reprC at h
  cases e : toPy d with
  | none => rw [e] at h; cases h
  | some p =>
    rw [e, Option.bind_some] at h
    split at h
    · rename_i c
      simp only [Bool.and_eq_true, decide_eq_true_eq] at c
      obtain ⟨a, rfl⟩ := hv
      cases h
      exact call_reprD gd hu pins s σ H _ us Q I ru ⟨a, p, rfl, rep_py le rv e, c.1, c.2.1, c.2.2.1, small_line c.2.2.2, k _ rfl⟩
    · cases h
theorem call_D (gd : X.A.guards = some []) (hu : X.A.units + 64 < cLine) (hc : X.calm = true) (f : BI) : CallR X (biV f) (rN X.K mg (biD f)) := by
  intro pins s σ H xs us Q I r h
  obtain ⟨J, G, ds, d, le, rs, hd, k⟩ := h
  have k0 : ∀ (v : V), Rep X.K mg J G d v → Q v H := fun v r => k v G H (Ext.refl le) same_refl r
  unfold biD at hd
  split at hd
  · obtain ⟨v, rfl, rv⟩ := reps1 rs
    rename_i d0
    cases q : lenD d0 with
    | none => rw [q] at hd; cases hd
    | some n =>
      rw [q] at hd
      cases hd
      unfold lenD at q
      split at q
      · cases q
        cases rv with
        | lst hl rl => exact call_len pins s σ H _ us Q I r ⟨_, _, rfl, .inl ⟨_, .inl (sameR le hl), rl.length⟩, k0 _ (.int _)⟩
      · cases q
        cases rv with
        | klst hl rl => exact call_len pins s σ H _ us Q I r ⟨_, _, rfl, .inl ⟨_, sameL le hl, rl.length⟩, k0 _ (.int _)⟩
      · cases q
        cases rv with
        | tup hl rl => exact call_len pins s σ H _ us Q I r ⟨_, _, rfl, .inr ⟨_, sameT le hl, rl.length⟩, k0 _ (.int _)⟩
      · split at q
        · rename_i hz
          cases q
          cases rv
          exact call_len pins s σ H _ us Q I r ⟨_, _, rfl, ⟨small_line (of_decide_eq_true hz), rfl⟩, k0 _ (.int _)⟩
        · cases q
      · cases q
  · obtain ⟨v, rfl, rv⟩ := reps1 rs
    split at hd
    · rename_i hz
      cases hd; cases rv
      exact SkE.call_repr_int pins s σ H _ us Q I r ⟨_, rfl, of_decide_eq_true hz, k0 _ (.str _)⟩
    · cases hd
  · obtain ⟨v, rfl, rv⟩ := reps1 rs
    cases hd; cases rv
    obtain ⟨u, rfl, t⟩ := vals1 r
    cases t
    exact PySem.P.repr_of_bool ⟨.str _, H, I.tok _, ⟨_, rfl⟩, k0 _ (.str _)⟩
  · obtain ⟨v, rfl, rv⟩ := reps1 rs
    refine call_reprC gd hu I le rv ?_ r hd fun x e => k0 _ (e ▸ .str _)
    cases rv
    exact ⟨_, rfl⟩
  · obtain ⟨v, rfl, rv⟩ := reps1 rs
    refine call_reprC gd hu I le rv ?_ r hd fun x e => k0 _ (e ▸ .str _)
    cases rv
    exact ⟨_, rfl⟩
  · obtain ⟨v, rfl, rv⟩ := reps1 rs
    split at hd
    · rename_i hz
      cases hd; cases rv
      exact call_str_int pins s σ H _ us Q I r ⟨_, rfl, of_decide_eq_true hz, k0 _ (.str _)⟩
    · cases hd
  · obtain ⟨v, rfl, rv⟩ := reps1 rs
    cases hd; cases rv
    exact SkE.call_str_str pins s σ H _ us Q I r ⟨_, rfl, k0 _ (.str _)⟩
  · obtain ⟨v, rfl, rv⟩ := reps1 rs
    cases hd; cases rv
    exact call_abs pins s σ H _ us Q I r ⟨_, rfl, k0 _ (.int _)⟩
  · obtain ⟨v, rfl, rv⟩ := reps1 rs
    cases hd; cases rv
    exact call_int1 pins s σ H _ us Q I r (.inl ⟨_, rfl, k0 _ (.int _)⟩)
  · obtain ⟨v, rfl, rv⟩ := reps1 rs
    cases hd; cases rv
    exact call_int1 pins s σ H _ us Q I r (.inr ⟨_, rfl, k0 _ (.int _)⟩)
  · obtain ⟨v, rfl, rv⟩ := reps1 rs
    cases hd; cases rv
    exact call_bool1 pins s σ H _ us Q I r (.inl ⟨_, rfl, k0 _ (.bl _)⟩)
  · obtain ⟨v, rfl, rv⟩ := reps1 rs
    cases hd; cases rv
    exact call_bool1 pins s σ H _ us Q I r (.inr ⟨_, rfl, k0 _ (.bl _)⟩)
  · obtain ⟨v, w, rfl, rv, rw'⟩ := reps2 rs
    cases hd; cases rv; cases rw'
    exact cr_gcd pins s σ H _ us Q I r ⟨_, _, rfl, k0 _ (.int _)⟩
  · obtain ⟨v, rfl, rv⟩ := reps1 rs
    cases hd
    cases rv with
    | lst hl rl => exact call_tuple_of pins s σ H _ us Q I r ⟨_, _, rfl, .inl ⟨.inl (sameR le hl), fun p hp => k _ _ _ (Ext.new le hp) (Same.upd hp) (rep_tup_new (free_of le hp) rl)⟩⟩
  · obtain ⟨v, rfl, rv⟩ := reps1 rs
    cases hd
    cases rv with
    | tup hl rl => exact call_tuple_of pins s σ H _ us Q I r ⟨_, _, rfl, .inr ⟨sameT le hl, k0 _ (.tup hl rl)⟩⟩
  · obtain ⟨v, rfl, rv⟩ := reps1 rs
    cases hd
    cases rv with
    | lst hl rl => exact call_list_of pins s σ H _ us Q I r ⟨_, _, rfl, .inl (.inl (sameR le hl)), fun p hp => k _ _ _ (Ext.new le hp) (Same.upd hp) (rep_lst_new (free_of le hp) rl)⟩
  · obtain ⟨v, rfl, rv⟩ := reps1 rs
    cases hd
    cases rv with
    | tup hl rl => exact call_list_of pins s σ H _ us Q I r ⟨_, _, rfl, .inr (sameT le hl), fun p hp => k _ _ _ (Ext.new le hp) (Same.upd hp) (rep_lst_new (free_of le hp) rl)⟩
  · obtain ⟨v, rfl, rv⟩ := reps1 rs
    rename_i xs0
    cases q : allInt xs0 with
    | none => rw [q] at hd; cases hd
    | some ns =>
      rw [q] at hd
      cases hd
      cases rv with
      | lst hl rl =>
        have e := allInt_reps rl q
        subst e
        exact cr_sum hc pins s σ H _ us Q I r ⟨_, _, rfl, .inl (sameR le hl), k0 _ (.int _)⟩
  · obtain ⟨v, rfl, rv⟩ := reps1 rs
    rename_i xs0
    cases q : allBl xs0 with
    | none => rw [q] at hd; cases hd
    | some ns =>
      rw [q] at hd
      cases hd
      cases rv with
      | lst hl rl =>
        have e := allBl_reps rl q
        subst e
        exact cr_all hc pins s σ H _ us Q I r ⟨_, _, rfl, .inl (sameR le hl), k0 _ (.bl _)⟩
  · obtain ⟨v, rfl, rv⟩ := reps1 rs
    rename_i xs0
    cases q : allBl xs0 with
    | none => rw [q] at hd; cases hd
    | some ns =>
      rw [q] at hd
      cases hd
      cases rv with
      | lst hl rl =>
        have e := allBl_reps rl q
        subst e
        exact cr_any hc pins s σ H _ us Q I r ⟨_, _, rfl, .inl (sameR le hl), k0 _ (.bl _)⟩
  · obtain ⟨v, w, rfl, rv, rw'⟩ := reps2 rs
    cases hd; cases rv; cases rw'
    exact call_max2 hc pins s σ H _ us Q I r ⟨_, _, rfl, k0 _ (.int _)⟩
  · obtain ⟨v, w, rfl, rv, rw'⟩ := reps2 rs
    cases hd; cases rv; cases rw'
    exact call_min2 hc pins s σ H _ us Q I r ⟨_, _, rfl, k0 _ (.int _)⟩
  · cases hd
theorem tyD_X {K : PySem.W.Frag} {J : Option Addr} {G H : Hp} {d : D} {x : V} {t : String} (le : Same G H) (r : Rep K mg J G d x) (h : tyD d = some t) : TyX K H x (.type t) := by
  cases r with
  | non => cases h; exact .base .non
  | bl b => cases h; exact .base (.bl b)
  | int b => cases h; exact .base (.int b)
  | str b => cases h; exact .base (.str b)
  | tup hl _ =>
    cases h
    rcases sameT le hl with (q | ⟨o, q⟩) | ⟨o, its, n, q, c, _⟩
    · exact .base (.tup q)
    · exact .fTuple q
    · exact .kTuple q c
  | lst hl _ =>
    cases h
    rcases sameR le hl with q | ⟨o, q⟩
    · exact .base (.lst q)
    · exact .base (.frz q)
  | dic hl => cases h; exact .base (.dK (le _ _ hl))
  | _ => cases h
theorem kit_tab : (["NoneType", "bool", "int", "str", "tuple", "list", "dict"].all fun t => tyKnown.all fun n => kitB t n == some (isTy t n)) = true := by decide +kernel
theorem tyD_mem {d : D} {t : String} (h : tyD d = some t) : t ∈ ["NoneType", "bool", "int", "str", "tuple", "list", "dict"] := by
  unfold tyD at h
  split at h <;> cases h <;> decide
theorem kit_one {K : PySem.W.Frag} {d : D} {t n : String} (h : tyD d = some t) (hn : tyKnown.contains n = true) : PySem.W.kitOne K (.type t) (.type n) = some (isTy t n) := by
  have h1 := List.all_eq_true.mp kit_tab t (tyD_mem h)
  have h2 := List.all_eq_true.mp h1 n (by simpa using hn)
  exact kit_ty (eq_of_beq h2)
theorem kit_all {K : PySem.W.Frag} {d : D} {t : String} (h : tyD d = some t) : ∀ {ts : List Ty} {ns : List String}, tyAll ts = some ns → PySem.W.kitAny K (.type t) (ns.map Value.type) = some (ns.any fun n => isTy t n)
  | [], _, e => by cases e; rfl
  | .bt n :: r, _, e => by
    simp only [tyAll] at e
    split at e
    · rename_i hn
      cases q : tyAll r with
      | none => rw [q] at e; cases e
      | some ns =>
        rw [q] at e
        cases e
        have k := kit_all (K := K) h q
        refine kitAny_cons (kit_one h hn) (fun z => ?_) fun z => ?_
        · rw [k]; simp [z]
        · simp [z]
    · cases e
  | .own _ :: _, _, e => by cases e
end
section
variable {X : Cx} {mg : MG} {W : WX} {pos : Pos} {e c : Expr} {f : Env → M D}
/-- a row of types, written -/
inductive TyNames (X : Cx) : List Expr → List String → Prop
  | nil : TyNames X [] []
  | cons {e : Expr} {n : String} {es : List Expr} {ns : List String} : isStar e = false → PE X e (tC (.ty n)) → TyNames X es ns → TyNames X (e :: es) (n :: ns)
theorem TyNames.pa {es : List Expr} {ns : List String} (h : TyNames X es ns) : PA X es (fun _ H Q => Q (ns.map V.ty) H) := by
  induction h with
  | nil => exact PA.of pa_nil fun _ _ _ q => q
  | cons h1 h2 _ ih => exact PA.of (pa_cons h2 ih (star1 h1)) fun _ _ _ q => q
theorem TyNames.star {es : List Expr} {ns : List String} (h : TyNames X es ns) : (es.all fun e => !isStar e) = true := by
  induction h with
  | nil => rfl
  | cons h1 _ _ ih => rw [List.all_cons, h1, ih]; rfl
theorem vt_paired : ∀ ns : List String, Paired ClsV (ns.map V.ty) (ns.map Value.type)
  | [] => .nil
  | n :: r => .cons (.ty n) (vt_paired r)
theorem pe_isi1 {p : Pos} {n : String} {x : Str} (hx : x = "isinstance") (hg : Gl X x) (hm : X.mg x = none) (he : PE X e (tD X.K mg W f)) (hc : PE X c (tC (.ty n))) (h1 : isStar e = false) (h2 : isStar c = false) :
    PE X (.Call (.Name x p) [e, c] [] pos) (tD X.K mg W fun ρ => M.bind (f ρ) fun x => lift ((isiD x [.bt n]).map .bl)) := by
  subst hx
  refine PE.of (pe_callB call_isi hg hm boot_isinstance (pa_cons he (pa_cons hc pa_nil (star1 h2)) (star1 h1)) (by decide) (by decide) (star1 h1) (by exact star_any (by simp [h2]))) ?_
  rintro σ H Q ⟨J, G, ρ, st, w, h⟩
  refine ⟨J, G, ρ, st, w, (post_bindD h).imp ?_⟩
  rintro x H1 ⟨d1, st1, G1, e1, x1, j1, r1, h1⟩
  obtain ⟨d, e, k⟩ := post_lift h1 j1
  unfold isiD at e
  cases q : tyD d1 with
  | none => rw [q] at e; cases e
  | some t =>
    rw [q] at e
    cases q2 : tyAll [.bt n] with
    | none => rw [q2] at e; cases e
    | some ns =>
      rw [q2] at e
      cases e
      have hn : tyKnown.contains n = true := by
        simp only [tyAll] at q2
        split at q2
        · rename_i z; exact z
        · cases q2
      have e3 : ns = [n] := by
        simp only [tyAll, hn, if_true] at q2
        cases q2
        rfl
      subst e3
      refine ⟨x, _, _, _, _, rfl, .ty n, tyD_X x1.le r1 q, kit_one q hn, ?_⟩
      have e4 : isTy t n = ([n].any fun n => isTy t n) := by simp
      rw [e4]
      exact k _ G1 H1 (Ext.refl x1.le) same_refl (.bl _)
theorem pe_isiN {p : Pos} {k : Nat} {tp : Pos} {ts : List Ty} {ns : List String} {es : List Expr} {x : Str} (hx : x = "isinstance") (hg : Gl X x) (hm : X.mg x = none) (he : PE X e (tD X.K mg W f)) (hc : TyNames X es ns) (hl : ns.length ≤ 1000000)
    (ht : tyAll ts = some ns) (h1 : isStar e = false) :
    PE X (.Call (.Name x p) [e, .Tuple es k tp] [] pos) (tD X.K mg W fun ρ => M.bind (f ρ) fun x => lift ((isiD x ts).map .bl)) := by
  subst hx
  refine PE.of (pe_callB call_isiT hg hm boot_isinstance (pa_cons he (pa_cons (pe_tup hc.pa) pa_nil rfl) (star1 h1)) (by decide) (by decide) (star1 h1) rfl) ?_
  rintro σ H Q ⟨J, G, ρ, st, w, h⟩
  refine ⟨J, G, ρ, st, w, (post_bindD h).imp ?_⟩
  rintro x H1 ⟨d1, st1, G1, e1, x1, j1, r1, h1⟩
  obtain ⟨d, e, kk⟩ := post_lift h1 j1
  refine ⟨by rw [List.length_map]; exact small_line hl, fun q hq => ?_⟩
  unfold isiD at e
  cases q1 : tyD d1 with
  | none => rw [q1] at e; cases e
  | some t =>
    rw [q1, ht] at e
    cases e
    exact ⟨x, q, _, _, _, _, rfl, upd_same, vt_paired ns, tyD_X (G := G1) (fun b u z => Same.upd hq b u (x1.le b u z)) r1 q1, kit_all q1 ht, kk _ G1 _ (Ext.lay x1.le hq) (Same.upd hq) (.bl _)⟩
end
end DE
/-! Targets, comprehensions -/
namespace DE
open PySem PySem.Spec PyProof.Rows L2
section
variable {K : PySem.W.Frag} {mg : MG} {J : Option Addr} {G H : Hp} {σ : L2.St} {ρ : Env}
theorem set_get {α : Type} {l : List α} {i j : Nat} {x : α} (h : i < l.length) : (l.set i x)[j]? = if j = i then some x else l[j]? := by
  by_cases e : j = i
  · subst e; rw [if_pos rfl, List.getElem?_set_self h]
  · rw [if_neg e, List.getElem?_set_ne (Ne.symm e)]
theorem SRel.set (s : SRel K mg J σ H ρ G) {i : Nat} (hi : i < ρ.length) {d : D} {v : V} (r : Rep K mg J G d v) : SRel K mg J (σ.set i (some v)) H (ρ.set i (.val d)) G where
  len := by rw [List.length_set, List.length_set, s.len]
  at_ := fun j sl e => by
    rw [set_get hi] at e
    rw [set_get (by rw [s.len]; exact hi)]
    by_cases h : j = i
    · rw [if_pos h] at e ⊢
      cases e
      exact ⟨v, rfl, r⟩
    · rw [if_neg h] at e ⊢
      exact s.at_ j sl e
  inj := fun j k xs ys a e1 e2 e3 e4 => by
    rw [set_get hi] at e1 e2
    rw [set_get (by rw [s.len]; exact hi)] at e3 e4
    by_cases h : j = i
    · rw [if_pos h] at e1; cases e1
    · by_cases h' : k = i
      · rw [if_pos h'] at e2; cases e2
      · rw [if_neg h] at e1 e3
        rw [if_neg h'] at e2 e4
        exact s.inj j k xs ys a e1 e2 e3 e4
theorem SRel.clear (s : SRel K mg J σ H ρ G) (i : Nat) : SRel K mg J (σ.set i none) H (ρ.set i .non) G := by
  by_cases hi : i < ρ.length
  · refine ⟨by rw [List.length_set, List.length_set, s.len], fun j sl e => ?_, fun j k xs ys a e1 e2 e3 e4 => ?_⟩
    · rw [set_get hi] at e
      rw [set_get (by rw [s.len]; exact hi)]
      by_cases h : j = i
      · rw [if_pos h] at e ⊢
        cases e
        exact True.intro
      · rw [if_neg h] at e ⊢
        exact s.at_ j sl e
    · rw [set_get hi] at e1 e2
      rw [set_get (by rw [s.len]; exact hi)] at e3 e4
      by_cases h : j = i
      · rw [if_pos h] at e1; cases e1
      · by_cases h' : k = i
        · rw [if_pos h'] at e2; cases e2
        · rw [if_neg h] at e1 e3
          rw [if_neg h'] at e2 e4
          exact s.inj j k xs ys a e1 e2 e3 e4
  · have e1 : ρ.set i .non = ρ := List.set_eq_of_length_le (by omega)
    have e2 : σ.set i none = σ := List.set_eq_of_length_le (by rw [s.len]; omega)
    rw [e1, e2]
    exact s
theorem SRel.wipe (s : SRel K mg J σ H ρ G) : ∀ vs : List Nat, SRel K mg J (L2.wipe σ vs) H (wipeE ρ vs) G
  | [] => s
  | v :: vs => (SRel.wipe s vs).clear v
/-- two rows of slots that differ in vs alone -/
def Away (vs : List Nat) (σ σ' : L2.St) : Prop := σ'.length = σ.length ∧ ∀ i, i ∉ vs → σ'[i]? = σ[i]?
theorem wipe_get {vs : List Nat} {σ : L2.St} {i : Nat} : (L2.wipe σ vs)[i]? = if i ∈ vs ∧ i < σ.length then some none else σ[i]? := by
  induction vs with
  | nil => simp [L2.wipe]
  | cons v vs ih =>
    show ((L2.wipe σ vs).set v none)[i]? = _
    by_cases hv : v < σ.length
    · rw [set_get (by rw [wipe_length]; exact hv), ih]
      by_cases e : i = v
      · subst e; simp [hv]
      · simp [e]
    · rw [List.set_eq_of_length_le (by rw [wipe_length]; omega), ih]
      by_cases e : i = v
      · subst e
        have : ¬ i < σ.length := hv
        simp [this]
      · simp [e]
theorem Away.wipe {vs : List Nat} {σ σ' : L2.St} (h : Away vs σ σ') : L2.wipe σ' vs = L2.wipe σ vs := by
  apply List.ext_getElem?
  intro i
  rw [wipe_get, wipe_get, h.1]
  by_cases e : i ∈ vs ∧ i < σ.length
  · rw [if_pos e, if_pos e]
  · rw [if_neg e, if_neg e]
    by_cases e' : i ∈ vs
    · have : ¬ i < σ.length := fun z => e ⟨e', z⟩
      have hl := h.1
      rw [List.getElem?_eq_none (by omega), List.getElem?_eq_none (by omega)]
    · exact h.2 i e'
theorem Away.refl {vs : List Nat} {σ : L2.St} : Away vs σ σ := ⟨rfl, fun _ _ => rfl⟩
theorem Away.trans {vs : List Nat} {σ σ' σ2 : L2.St} (a : Away vs σ σ') (b : Away vs σ' σ2) : Away vs σ σ2 := ⟨b.1.trans a.1, fun i h => (b.2 i h).trans (a.2 i h)⟩
theorem Away.set {vs : List Nat} {σ : L2.St} {i : Nat} {o : Option V} (h : i ∈ vs) : Away vs σ (σ.set i o) := ⟨List.length_set, fun j hj => List.getElem?_set_ne (fun e => hj (by rw [← e]; exact h))⟩
end
/-! ### targets -/
mutual
def tgVars : Tg → List Nat
  | .nm i => [i]
  | .tp ts => tgsVars ts
def tgsVars : List Tg → List Nat
  | [] => []
  | t :: ts => tgVars t ++ tgsVars ts
end
section
variable {X : Cx} {mg : MG}
/-- what a target asks: the data go in -/
def gD (K : PySem.W.Frag) (mg : MG) (t : Tg) : TG := fun v σ H Q => ∃ (J : Option Addr) (G : Hp) (ρ ρ' : Env) (d : D), SRel K mg J σ H ρ G ∧ Same G H ∧ Rep K mg J G d v ∧ assign t d ρ = some ρ' ∧
  ∀ σ', SRel K mg J σ' H ρ' G → Away (tgVars t) σ σ' → Q σ' H
def gsD (K : PySem.W.Frag) (mg : MG) (ts : List Tg) : TGs := fun vs σ H Q => ∃ (J : Option Addr) (G : Hp) (ρ ρ' : Env) (ds : List D), SRel K mg J σ H ρ G ∧ Same G H ∧ Reps K mg J G ds vs ∧ assigns ts ds ρ = some ρ' ∧
  ∀ σ', SRel K mg J σ' H ρ' G → Away (tgsVars ts) σ σ' → Q σ' H
theorem PG.of {e : Expr} {t t' : TG} (h : PG X e t) (k : ∀ v σ H Q, t' v σ H Q → t v σ H Q) : PG X e t' := ⟨fun pins s σ H v u Q I r q => h.run pins s σ H v u Q I r (k _ _ _ _ q)⟩
theorem PGs.of {e : List Expr} {t t' : TGs} (h : PGs X e t) (k : ∀ v σ H Q, t' v σ H Q → t v σ H Q) : PGs X e t' := ⟨fun pins s σ H v u Q I r q => h.run pins s σ H v u Q I r (k _ _ _ _ q)⟩
theorem pg_nmD {x : Str} {pos : Pos} {i : Nat} (hN : X.N.Nodup) (hi : X.N[i]? = some x) (hx : Loc X.env.scope x) (hf : X.fn x = true ∨ X.env.scope.names.lookup x = some .local) : PG X (.Name x pos) (gD X.K mg (.nm i)) := by
  refine PG.of (pg_name hN hi hx hf) ?_
  rintro v σ H Q ⟨J, G, ρ, ρ', d, s, le, r, ha, k⟩
  simp only [assign] at ha
  split at ha
  · rename_i h
    cases ha
    exact k _ (s.set h r) (Away.set (by simp [tgVars]))
  · cases ha
theorem pgs_nilD : PGs X [] (gsD X.K mg []) := by
  refine PGs.of pgs_nil ?_
  rintro vs σ H Q ⟨J, G, ρ, ρ', ds, s, le, r, ha, k⟩
  cases r with
  | nil =>
    simp only [assigns] at ha
    cases ha
    exact ⟨rfl, k _ s Away.refl⟩
  | cons a b =>
    simp only [assigns] at ha
    cases ha
theorem pgs_consD {e : Expr} {es : List Expr} {t : Tg} {ts : List Tg} (h1 : PG X e (gD X.K mg t)) (h2 : PGs X es (gsD X.K mg ts)) (hs : (assignEach (e :: es) X.env).map (·.2) = PySem.assign e X.env :: (assignEach es X.env).map (·.2)) :
    PGs X (e :: es) (gsD X.K mg (t :: ts)) := by
  refine PGs.of (pgs_cons h1 h2 hs) ?_
  rintro vs σ H Q ⟨J, G, ρ, ρ', ds, s, le, r, ha, k⟩
  cases r with
  | nil =>
    simp only [assigns] at ha
    cases ha
  | @cons d v ds vs a b =>
    simp only [assigns] at ha
    cases q : DE.assign t d ρ with
    | none => rw [q] at ha; cases ha
    | some ρ1 =>
      rw [q] at ha
      refine ⟨v, vs, rfl, J, G, ρ, ρ1, d, s, le, a, q, fun σ1 s1 a1 => ⟨J, G, ρ1, ρ', ds, s1, le, b, ha, fun σ2 s2 a2 => k σ2 s2 ?_⟩⟩
      refine ⟨a2.1.trans a1.1, fun i hi => ?_⟩
      simp only [tgsVars, List.mem_append, not_or] at hi
      exact (a2.2 i hi.2).trans (a1.2 i hi.1)
theorem pg_tpD {es : List Expr} {kk : Nat} {pos : Pos} {ts : List Tg} (hc : X.calm = true) (h : PGs X es (gsD X.K mg ts)) (hn : (assignEach es X.env).length = ts.length) (hst : (assignEach es X.env).findIdx? (·.1) = none) :
    PG X (.Tuple es kk pos) (gD X.K mg (.tp ts)) := by
  have lens : ∀ {J : Option Addr} {G : Hp} {ts : List Tg} {ds : List D} {ρ ρ' : Env}, assigns ts ds ρ = some ρ' → ds.length = ts.length := by
    intro J G ts
    induction ts with
    | nil => intro ds ρ ρ' e; cases ds with
      | nil => rfl
      | cons _ _ => simp only [assigns] at e; cases e
    | cons t ts ih => intro ds ρ ρ' e; cases ds with
      | nil => simp only [assigns] at e; cases e
      | cons d ds =>
        simp only [assigns] at e
        cases q : DE.assign t d ρ with
        | none => rw [q] at e; cases e
        | some ρ1 => rw [q] at e; exact congrArg Nat.succ (ih e)
  refine ⟨fun pins s σ H v u Q I r hw => ?_⟩
  obtain ⟨J, G, ρ, ρ', d, sr, le, rd, ha, k⟩ := hw
  cases rd with
  | tup ht rr =>
    simp only [DE.assign] at ha
    refine (pg_tup hc h hn hst).run pins s σ H _ u Q I r ⟨_, _, rfl, sameT le ht, ?_, J, G, ρ, ρ', _, sr, le, rr, ha, fun σ' s' a' => k σ' s' (by simpa only [tgVars] using a')⟩
    rw [← rr.length]
    exact lens (J := J) (G := G) ha
  | lst ht rr =>
    simp only [DE.assign] at ha
    refine (pg_unl hc h hn hst).run pins s σ H _ u Q I r ⟨_, _, rfl, .inl (sameR le ht), ?_, J, G, ρ, ρ', _, sr, le, rr, ha, fun σ' s' a' => k σ' s' (by simpa only [tgVars] using a')⟩
    rw [← rr.length]
    exact lens (J := J) (G := G) ha
  | _ => simp only [DE.assign] at ha; cases ha
end
end DE
/-! What is walked; comprehensions -/
namespace DE
open PySem PySem.Spec PyProof.Rows L2
/-- the iterator yields these data, one behind another, wherever the ground has grown -/
structure Walks (K : PySem.W.Frag) (mg : MG) (J : Option Addr) (G0 : Hp) (items : List D) (it : It) : Prop where
  go : ∀ (i : Nat) (G H : Hp), Same G0 G → Same G H → i < items.length → it.go i H
  yld : ∀ (i : Nat) (G H H' : Hp) (x : V) (d : D), Same G0 G → Same G H → items[i]? = some d → it.yld i H x H' → ∃ G', Ext J G H G' H' ∧ Same H H' ∧ Rep K mg J G' d x
  stop : ∀ (i : Nat) (G H : Hp), Same G0 G → Same G H → items.length ≤ i → it.stop i H
section
variable {K : PySem.W.Frag} {mg : MG} {J : Option Addr} {G : Hp} {items : List D} {vs : List V} {a b : Addr}
theorem at_lt {α : Type} {l : List α} {i : Nat} (h : i < l.length) : ∃ x, l[i]? = some x := ⟨_, List.getElem?_eq_getElem h⟩
theorem walks_list (h : Rd G a (.lst vs)) (r : Reps K mg J G items vs) : Walks K mg J G items (Itl K a) where
  go := fun i G1 H e1 e2 hi => by
    obtain ⟨x, hx⟩ := at_lt (l := vs) (i := i) (by rw [← r.length]; exact hi)
    exact ⟨vs, x, .inl (sameR e2 (sameR e1 h)), hx⟩
  yld := fun i G1 H H' x d e1 e2 hd y => by
    obtain ⟨eH, y⟩ := y
    subst eH
    obtain ⟨v, hv, rv⟩ := r.get hd
    have := y vs (.inl (sameR e2 (sameR e1 h)))
    rw [hv] at this
    cases this
    exact ⟨G1, Ext.refl e2, same_refl, rv.mono e1⟩
  stop := fun i G1 H e1 e2 hi => ⟨vs, .inl (sameR e2 (sameR e1 h)), by rw [← r.length]; exact hi⟩
theorem walks_klist (h : SqL K G a vs) (r : Reps K mg J G items vs) : Walks K mg J G items (Itl K a) where
  go := fun i G1 H e1 e2 hi => by
    obtain ⟨x, hx⟩ := at_lt (l := vs) (i := i) (by rw [← r.length]; exact hi)
    exact ⟨vs, x, sameL e2 (sameL e1 h), hx⟩
  yld := fun i G1 H H' x d e1 e2 hd y => by
    obtain ⟨eH, y⟩ := y
    subst eH
    obtain ⟨v, hv, rv⟩ := r.get hd
    have := y vs (sameL e2 (sameL e1 h))
    rw [hv] at this
    cases this
    exact ⟨G1, Ext.refl e2, same_refl, rv.mono e1⟩
  stop := fun i G1 H e1 e2 hi => ⟨vs, sameL e2 (sameL e1 h), by rw [← r.length]; exact hi⟩
theorem walks_tup (h : SqT K G a vs) (r : Reps K mg J G items vs) : Walks K mg J G items (Itt K a) where
  go := fun i G1 H e1 e2 hi => by
    obtain ⟨x, hx⟩ := at_lt (l := vs) (i := i) (by rw [← r.length]; exact hi)
    exact ⟨vs, x, sameT e2 (sameT e1 h), hx⟩
  yld := fun i G1 H H' x d e1 e2 hd y => by
    obtain ⟨eH, y⟩ := y
    subst eH
    obtain ⟨v, hv, rv⟩ := r.get hd
    have := y vs (sameT e2 (sameT e1 h))
    rw [hv] at this
    cases this
    exact ⟨G1, Ext.refl e2, same_refl, rv.mono e1⟩
  stop := fun i G1 H e1 e2 hi => ⟨vs, sameT e2 (sameT e1 h), by rw [← r.length]; exact hi⟩
theorem rngL_get {lo : Int} {n i : Nat} : (rngL lo n)[i]? = if i < n then some (.int (lo + (i : Nat))) else none := by
  unfold rngL
  rw [List.getElem?_map]
  by_cases h : i < n
  · rw [if_pos h, List.getElem?_range h]; rfl
  · rw [if_neg h, List.getElem?_eq_none (by simpa using h)]; rfl
theorem walks_rng {lo : Int} {n : Nat} : Walks K mg J G (rngL lo n) (Itr lo n) where
  go := fun i G1 H e1 e2 hi => by show i < n; simpa [rngL] using hi
  yld := fun i G1 H H' x d e1 e2 hd y => by
    obtain ⟨eH, ex⟩ := y
    subst eH ex
    rw [rngL_get] at hd
    split at hd
    · cases hd
      exact ⟨G1, Ext.refl e2, same_refl, .int _⟩
    · cases hd
  stop := fun i G1 H e1 e2 hi => by show n ≤ i; simpa [rngL] using hi
theorem enumL_get : ∀ {xs : List D} {k i : Nat}, (enumL k xs)[i]? = xs[i]?.map fun x => .tup [.int ((k + i : Nat) : Int), x]
  | [], _, _ => rfl
  | x :: r, k, 0 => rfl
  | x :: r, k, i + 1 => by
    show (enumL (k + 1) r)[i]? = r[i]?.map _
    rw [enumL_get]
    congr 1
    funext y
    rw [show k + 1 + i = k + (i + 1) by omega]
theorem enumL_length : ∀ {xs : List D} {k : Nat}, (enumL k xs).length = xs.length
  | [], _ => rfl
  | x :: r, k => congrArg Nat.succ enumL_length
theorem walks_enum (h : Rd G a (.lst vs)) (r : Reps K mg J G items vs) : Walks K mg J G (enumL 0 items) (Ite K a) where
  go := fun i G1 H e1 e2 hi => by
    rw [enumL_length] at hi
    obtain ⟨x, hx⟩ := at_lt (l := vs) (i := i) (by rw [← r.length]; exact hi)
    exact ⟨vs, x, .inl (sameR e2 (sameR e1 h)), hx⟩
  yld := fun i G1 H H' x d e1 e2 hd y => by
    obtain ⟨T, y0, ex, hT, eH, hy⟩ := y
    subst ex eH
    rw [enumL_get] at hd
    cases q : items[i]? with
    | none => rw [q] at hd; cases hd
    | some d0 =>
      rw [q] at hd
      cases hd
      obtain ⟨v, hv, rv⟩ := r.get q
      have := hy vs (.inl (sameR e2 (sameR e1 h)))
      rw [hv] at this
      cases this
      refine ⟨_, Ext.new e2 hT, Same.upd hT, rep_tup_new (free_of e2 hT) (.cons ?_ (.cons (rv.mono e1) .nil))⟩
      rw [Nat.zero_add]
      exact .int _
  stop := fun i G1 H e1 e2 hi => ⟨vs, .inl (sameR e2 (sameR e1 h)), by rw [← r.length]; rw [enumL_length] at hi; exact hi⟩
theorem zipL_get : ∀ {xs ys : List D} {i : Nat}, (zipL xs ys)[i]? = xs[i]?.bind fun x => ys[i]?.map fun y => .tup [x, y]
  | [], _, _ => by cases ‹List D› <;> rfl
  | x :: r, [], i => by
    show (none : Option D) = _
    cases (x :: r)[i]? <;> rfl
  | x :: r, y :: q, 0 => rfl
  | x :: r, y :: q, i + 1 => by
    show (zipL r q)[i]? = _
    rw [zipL_get]
    rfl
theorem walks_zip {items2 : List D} {vs2 : List V} (h : Rd G a (.lst vs)) (r : Reps K mg J G items vs) (h2 : Rd G b (.lst vs2)) (r2 : Reps K mg J G items2 vs2) : Walks K mg J G (zipL items items2) (Itz K a b) where
  go := fun i G1 H e1 e2 hi => by
    obtain ⟨z, hz⟩ := at_lt hi
    rw [zipL_get] at hz
    cases q : items[i]? with
    | none => rw [q] at hz; cases hz
    | some d0 =>
      cases q2 : items2[i]? with
      | none => rw [q, q2] at hz; cases hz
      | some d1 =>
        obtain ⟨v, hv, _⟩ := r.get q
        obtain ⟨v2, hv2, _⟩ := r2.get q2
        exact ⟨vs, vs2, v, v2, .inl (sameR e2 (sameR e1 h)), .inl (sameR e2 (sameR e1 h2)), hv, hv2⟩
  yld := fun i G1 H H' x d e1 e2 hd y => by
    obtain ⟨T, x0, y0, ex, hT, eH, hx, hy⟩ := y
    subst ex eH
    rw [zipL_get] at hd
    cases q : items[i]? with
    | none => rw [q] at hd; cases hd
    | some d0 =>
      cases q2 : items2[i]? with
      | none => rw [q, q2] at hd; cases hd
      | some d1 =>
        rw [q, q2] at hd
        cases hd
        obtain ⟨v, hv, rv⟩ := r.get q
        obtain ⟨v2, hv2, rv2⟩ := r2.get q2
        have e3 := hx vs (.inl (sameR e2 (sameR e1 h)))
        have e4 := hy vs2 (.inl (sameR e2 (sameR e1 h2)))
        rw [hv] at e3
        rw [hv2] at e4
        cases e3
        cases e4
        exact ⟨_, Ext.new e2 hT, Same.upd hT, rep_tup_new (free_of e2 hT) (.cons (rv.mono e1) (.cons (rv2.mono e1) .nil))⟩
  stop := fun i G1 H e1 e2 hi => by
    refine ⟨vs, vs2, .inl (sameR e2 (sameR e1 h)), .inl (sameR e2 (sameR e1 h2)), ?_⟩
    rw [← r.length, ← r2.length]
    by_cases z : items.length ≤ i
    · exact .inl z
    · right
      obtain ⟨x, hx⟩ := at_lt (l := items) (i := i) (by omega)
      have e := List.getElem?_eq_none hi
      rw [zipL_get, hx] at e
      cases q : items2[i]? with
      | none => exact List.getElem?_eq_none_iff.mp q
      | some y => rw [q] at e; cases e
end
section
variable {X : Cx} {mg : MG} {W : WX} {tg : Expr} {f : Env → M D} {fs : Env → M (List D)}
theorem PI.of {e : Expr} {t t' : TI} (h : PI X tg e t) (k : ∀ σ H Q, t' σ H Q → t σ H Q) : PI X tg e t' := ⟨fun pins s σ H R I q => h.run pins s σ H R I (k _ _ _ q)⟩
/-- what a for or a comprehension walks -/
def iD (K : PySem.W.Frag) (mg : MG) (W : WX) (f : Env → M (List D)) : TI := fun σ H R => tDG K mg W (fun J G items it => Walks K mg J G items it) f σ H R
theorem pi_valD {l : Expr} (he : PE X l (tD X.K mg W f)) : PI X tg l (iD X.K mg W fun ρ => M.bind (f ρ) fun d => lift (itemsD .val [d])) := by
  refine ⟨fun pins s σ H R I h => ?_⟩
  obtain ⟨J, G, ρ, st, w, h⟩ := h
  have hb := post_bindD h
  cases q : f ρ st with
  | stuck => rw [q] at hb; exact hb.elim
  | err e st1 =>
    refine (pi_list he).run pins s σ H R I ⟨J, G, ρ, st, w, ?_⟩
    rw [q] at hb ⊢
    exact hb
  | ok d st1 =>
    cases d with
    | lst xs =>
      refine (pi_list he).run pins s σ H R I ⟨J, G, ρ, st, w, hb.imp ?_⟩
      rintro v H1 ⟨d1, st2, G1, e1, x1, j1, r1, h1⟩
      rw [q] at e1
      cases e1
      obtain ⟨it, e, k⟩ := post_lift h1 j1
      cases e
      cases r1 with
      | lst hl rl => exact ⟨_, rfl, ⟨_, .inl (sameR x1.le hl)⟩, k _ G1 H1 (Ext.refl x1.le) same_refl (walks_list hl rl)⟩
    | klst xs =>
      refine (pi_list he).run pins s σ H R I ⟨J, G, ρ, st, w, hb.imp ?_⟩
      rintro v H1 ⟨d1, st2, G1, e1, x1, j1, r1, h1⟩
      rw [q] at e1
      cases e1
      obtain ⟨it, e, k⟩ := post_lift h1 j1
      cases e
      cases r1 with
      | klst hl rl => exact ⟨_, rfl, ⟨_, sameL x1.le hl⟩, k _ G1 H1 (Ext.refl x1.le) same_refl (walks_klist hl rl)⟩
    | tup xs =>
      refine (pi_tup he).run pins s σ H R I ⟨J, G, ρ, st, w, hb.imp ?_⟩
      rintro v H1 ⟨d1, st2, G1, e1, x1, j1, r1, h1⟩
      rw [q] at e1
      cases e1
      obtain ⟨it, e, k⟩ := post_lift h1 j1
      cases e
      cases r1 with
      | tup hl rl => exact ⟨_, rfl, ⟨_, sameT x1.le hl⟩, k _ G1 H1 (Ext.refl x1.le) same_refl (walks_tup hl rl)⟩
    | str z =>
      refine (pi_str he).run pins s σ H R I ⟨J, G, ρ, st, w, hb.imp ?_⟩
      rintro v H1 ⟨d1, st2, G1, e1, x1, j1, r1, h1⟩
      rw [q] at e1
      cases e1
      obtain ⟨it, e, k⟩ := post_lift h1 j1
      cases e
      cases r1
      refine ⟨z, rfl, k _ G1 H1 (Ext.refl x1.le) same_refl ⟨fun i G2 H2 _ _ hi => ?_, fun i G2 H2 H3 x d e2 e3 hd y => ?_, fun i G2 H2 _ _ hi => ?_⟩⟩
      · show i < z.cps.size; simpa using hi
      · obtain ⟨eH, c, hc, ex⟩ := y
        subst eH ex
        rw [List.getElem?_map, Array.getElem?_toList, hc] at hd
        cases hd
        exact ⟨G2, Ext.refl e3, same_refl, .str _⟩
      · show z.cps.size ≤ i; simpa using hi
    | _ =>
      exfalso
      rw [q] at hb
      have h' : Post X.K mg J G H σ W (Walks X.K mg J) R (M.bind (f ρ) (fun d => lift (itemsD .val [d])) st) := h
      unfold M.bind at h'
      rw [q] at h'
      exact h'
/-- of arguments: what they come to, if they come to such -/
theorem pi_rng1D {a : Expr} {p pos : Pos} {x : Str} (hx : x = "range") (hg : Gl X x) (hm : X.mg x = none) (ha : PE X a (tD X.K mg W f)) (h1 : isStar a = false) :
    PI X tg (.Call (.Name x p) [a] [] pos) (iD X.K mg W fun ρ => M.bind (fCons f (fun _ => M.pure []) ρ) fun ds => lift (itemsD .rng ds)) := by
  subst hx
  refine PI.of (pi_range1 hg hm (pa_consD h1 ha pa_nilD) (star1 h1)) ?_
  rintro σ H R ⟨J, G, ρ, st, w, h⟩
  refine ⟨J, G, ρ, st, w, (post_bindDs h).imp ?_⟩
  rintro vs H1 ⟨ds, st2, G1, e1, x1, j1, r1, h1⟩
  obtain ⟨it, e, k⟩ := post_lift h1 j1
  unfold itemsD at e
  split at e
  all_goals (first | contradiction | skip)
  · obtain ⟨v, rfl, rv⟩ := reps1 r1
    split at e
    · rename_i hz
      cases e
      cases rv
      obtain ⟨z1, z2⟩ := Bool.and_eq_true_iff.mp hz
      exact ⟨_, rfl, of_decide_eq_true z1, of_decide_eq_true z2, k _ G1 H1 (Ext.refl x1.le) same_refl walks_rng⟩
    · cases e
  · exfalso
    unfold fCons M.bind at e1
    cases q : f ρ st with
    | ok d s1 => rw [q] at e1; cases e1
    | err _ _ => rw [q] at e1; cases e1
    | stuck => rw [q] at e1; cases e1
theorem pi_rng2D {a b : Expr} {p pos : Pos} {x : Str} {g : Env → M D} (hx : x = "range") (hg : Gl X x) (hm : X.mg x = none) (ha : PE X a (tD X.K mg W f)) (hb : PE X b (tD X.K mg W g)) (h1 : isStar a = false) (h2 : isStar b = false) :
    PI X tg (.Call (.Name x p) [a, b] [] pos) (iD X.K mg W fun ρ => M.bind (fCons f (fCons g (fun _ => M.pure [])) ρ) fun ds => lift (itemsD .rng ds)) := by
  subst hx
  refine PI.of (pi_range2 hg hm (pa_consD h1 ha (pa_consD h2 hb pa_nilD)) (by rw [star1 h1, star1 h2]; rfl) (star1 h2)) ?_
  rintro σ H R ⟨J, G, ρ, st, w, h⟩
  refine ⟨J, G, ρ, st, w, (post_bindDs h).imp ?_⟩
  rintro vs H1 ⟨ds, st2, G1, e1, x1, j1, r1, h1⟩
  obtain ⟨it, e, k⟩ := post_lift h1 j1
  unfold itemsD at e
  split at e
  all_goals (first | contradiction | skip)
  · exfalso
    unfold fCons M.bind at e1
    cases q : f ρ st with
    | ok d s1 =>
      rw [q] at e1
      simp only [Res.bind, M.bind, M.pure] at e1
      cases q2 : g ρ s1 with
      | ok d2 s2 => rw [q2] at e1; cases e1
      | err _ _ => rw [q2] at e1; cases e1
      | stuck => rw [q2] at e1; cases e1
    | err _ _ => rw [q] at e1; cases e1
    | stuck => rw [q] at e1; cases e1
  · obtain ⟨v, v2, rfl, rv, rv2⟩ := reps2 r1
    split at e
    · rename_i hz
      cases e
      cases rv
      cases rv2
      obtain ⟨z1, z2⟩ := Bool.and_eq_true_iff.mp hz
      obtain ⟨y1, y2⟩ := Bool.and_eq_true_iff.mp z1
      obtain ⟨y3, y4⟩ := Bool.and_eq_true_iff.mp z2
      exact ⟨_, _, rfl, ⟨of_decide_eq_true y1, of_decide_eq_true y2, of_decide_eq_true y3, of_decide_eq_true y4⟩, k _ G1 H1 (Ext.refl x1.le) same_refl walks_rng⟩
    · cases e
theorem pi_enumD {a : Expr} {p pos tpos : Pos} {elts : List Expr} {kk : Nat} {x : Str} (hx : x = "enumerate") (hg : Gl X x) (hm : X.mg x = none) (ha : PE X a (tD X.K mg W f)) (h1 : isStar a = false) :
    PI X (.Tuple elts kk tpos) (.Call (.Name x p) [a] [] pos) (iD X.K mg W fun ρ => M.bind (fCons f (fun _ => M.pure []) ρ) fun ds => lift (itemsD .enum ds)) := by
  subst hx
  refine PI.of (pi_enum hg hm (pa_consD h1 ha pa_nilD) (star1 h1)) ?_
  rintro σ H R ⟨J, G, ρ, st, w, h⟩
  refine ⟨J, G, ρ, st, w, (post_bindDs h).imp ?_⟩
  rintro vs H1 ⟨ds, st2, G1, e1, x1, j1, r1, h1⟩
  obtain ⟨it, e, k⟩ := post_lift h1 j1
  unfold itemsD at e
  split at e
  all_goals (first | contradiction | skip)
  · obtain ⟨v, rfl, rv⟩ := reps1 r1
    cases e
    cases rv with
    | lst hl rl => exact ⟨_, _, rfl, .inl (sameR x1.le hl), k _ G1 H1 (Ext.refl x1.le) same_refl (walks_enum hl rl)⟩
theorem pi_zipD {a b : Expr} {p pos tpos : Pos} {elts : List Expr} {kk : Nat} {x : Str} {g : Env → M D} (hx : x = "zip") (hg : Gl X x) (hm : X.mg x = none) (ha : PE X a (tD X.K mg W f)) (hb : PE X b (tD X.K mg W g)) (h1 : isStar a = false) (h2 : isStar b = false) :
    PI X (.Tuple elts kk tpos) (.Call (.Name x p) [a, b] [] pos) (iD X.K mg W fun ρ => M.bind (fCons f (fCons g (fun _ => M.pure [])) ρ) fun ds => lift (itemsD .zip ds)) := by
  subst hx
  refine PI.of (pi_zip hg hm (pa_consD h1 ha (pa_consD h2 hb pa_nilD)) (star1 h1) (by rw [star1 h2]; rfl)) ?_
  rintro σ H R ⟨J, G, ρ, st, w, h⟩
  refine ⟨J, G, ρ, st, w, (post_bindDs h).imp ?_⟩
  rintro vs H1 ⟨ds, st2, G1, e1, x1, j1, r1, h1⟩
  obtain ⟨it, e, k⟩ := post_lift h1 j1
  unfold itemsD at e
  split at e
  all_goals (first | contradiction | skip)
  · obtain ⟨v, v2, rfl, rv, rv2⟩ := reps2 r1
    cases e
    cases rv with
    | lst hl rl =>
      cases rv2 with
      | lst hl2 rl2 => exact ⟨_, _, _, _, rfl, .inl (sameR x1.le hl), .inl (sameR x1.le hl2), k _ G1 H1 (Ext.refl x1.le) same_refl (walks_zip hl rl hl2 rl2)⟩
end
end DE
/-! Comprehensions -/
namespace DE
open PySem PySem.Spec PyProof.Rows L2
abbrev W0 : WX := fun _ _ _ _ => False
section
variable {K : PySem.W.Frag} {mg : MG} {J : Option Addr} {G H G1 H1 : Hp} {p : Addr}
/-- an object outside the ground, made since, is changed -/
theorem Ext.touch {o : HO} (x : Ext J G H G1 H1) (h : H p = none) (g : G1 p = none) (hx : ∃ u, H1 p = some u) : Ext J G H G1 (upd H1 p o) where
  le := fun a u e => by rw [upd_ne (ne_of_none e g)]; exact x.le a u e
  gg := x.gg
  hh := fun a u e n => by rw [upd_ne (ne_of_none e h)]; exact x.hh a u e n
  hj := fun a u e => by rw [upd_ne (ne_of_none e h)]; exact x.hj a u e
  fr := x.fr
theorem Ext.joined {o : HO} (x : Ext J G H G1 H1) (h : H p = none) (e0 : Same G H) (hx : H1 p = some o) : Ext J G H (upd G1 p o) H1 where
  le := Ext.join x.le hx
  gg := fun a u e => by rw [upd_ne (ne_of_none (e0 a u e) h)]; exact x.gg a u e
  hh := x.hh
  hj := x.hj
  fr := fun a u e e' => by
    by_cases ha : a = p
    · rw [ha]; exact h
    · rw [upd_ne ha] at e'; exact x.fr a u e e'
theorem JOk.touch {o : HO} {st : S} (j : JOk K mg J G H st) (n : J ≠ some p) : JOk K mg J G (upd H p o) st := by
  cases J with
  | none => exact j
  | some a =>
    obtain ⟨h1, vs, h2, r⟩ := j
    exact ⟨h1, vs, by rw [upd_ne (fun e => n (by rw [e]))]; exact h2, r⟩
theorem JOk.joined {o : HO} {st : S} (j : JOk K mg J G H st) (n : J ≠ some p) (g : G p = none) : JOk K mg J (upd G p o) H st := by
  cases J with
  | none => exact j
  | some a =>
    obtain ⟨h1, vs, h2, r⟩ := j
    exact ⟨by rw [upd_ne (fun e => n (by rw [e]))]; exact h1, vs, h2, r.mono (Same.upd g)⟩
theorem JOk.ne {st : S} (j : JOk K mg J G H st) (h : H p = none) : J ≠ some p := by
  intro e
  subst e
  obtain ⟨_, vs, h2, _⟩ := j
  rw [h] at h2
  cases h2
end
theorem drop_get {α : Type} {l : List α} {i : Nat} (h : i < l.length) : ∃ d, l[i]? = some d ∧ l.drop i = d :: l.drop (i + 1) := ⟨l[i], List.getElem?_eq_getElem h, List.drop_eq_getElem_cons h⟩
theorem few_some {xs ys : List D} (h : few xs = some ys) : ys = xs ∧ xs.length ≤ 1000000 := by
  unfold few at h
  split at h
  · rename_i z
    cases h
    exact ⟨rfl, of_decide_eq_true z⟩
  · cases h
theorem compT_ok {tg : Tg} {vs : List Nat} {ρ : Env} {ft : Env → M Bool} {fe : Env → M D} {x : D} {st st2 : S} {o : Option D} (h : compT tg vs ρ ft fe x st = .ok o st2) :
    ∃ ρ2 b st1, assign tg x (wipeE ρ vs) = some ρ2 ∧ ft ρ2 st = .ok b st1 ∧ ((b = true ∧ ∃ y, fe ρ2 st1 = .ok y st2 ∧ o = some y) ∨ (b = false ∧ st2 = st1 ∧ o = none)) := by
  unfold compT at h
  cases q : DE.assign tg x (wipeE ρ vs) with
  | none => rw [q] at h; cases h
  | some ρ2 =>
    rw [q] at h
    have h : M.bind (ft ρ2) (fun ok => match ok with | true => M.bind (fe ρ2) fun y => M.pure (some y) | false => M.pure none) st = .ok o st2 := h
    unfold M.bind at h
    cases q2 : ft ρ2 st with
    | stuck => rw [q2] at h; cases h
    | err _ _ => rw [q2] at h; cases h
    | ok b st1 =>
      rw [q2] at h
      refine ⟨ρ2, b, st1, rfl, q2, ?_⟩
      cases b with
      | false => cases h; exact .inr ⟨rfl, rfl, rfl⟩
      | true =>
        have h : M.bind (fe ρ2) (fun y => M.pure (some y)) st1 = .ok o st2 := h
        unfold M.bind at h
        cases q3 : fe ρ2 st1 with
        | stuck => rw [q3] at h; cases h
        | err _ _ => rw [q3] at h; cases h
        | ok y st3 =>
          rw [q3] at h
          cases h
          exact .inl ⟨rfl, y, rfl, rfl⟩
section
variable {X : Cx} {mg : MG} {W : WX}
/-- a fresh list of these items, not yet in the ground -/
def PostF (K : PySem.W.Frag) (mg : MG) (J : Option Addr) (G H : Hp) (σ : L2.St) (W : WX) (Q : VK) : Res (List DE.D) → Prop
  | .ok xs st => ∀ (a : Addr) (vs : List V) (G' H' : Hp), Ext J G H G' H' → JOk K mg J G' H' st → H' a = some (.lst vs) → G' a = none → H a = none → Reps K mg J G' xs vs → Q (.ref a) H'
  | .err e st => ∀ (cls : Value) (dd : Option Addr) (G' H' : Hp), Ext J G H G' H' → JOk K mg J G' H' st → XRep K mg J e cls dd G' H' → W cls dd σ H'
  | .stuck => False
def tF (K : PySem.W.Frag) (mg : MG) (W : WX) (f : Env → M (List DE.D)) : TE := fun σ H Q => ∃ (J : Option Addr) (G : Hp) (ρ : Env) (st : S), Now K mg J σ H ρ G st ∧ PostF K mg J G H σ W Q (f ρ st)
/-- .. it joins the ground -/
theorem PostF.of {K : PySem.W.Frag} {J : Option Addr} {G H : Hp} {σ : L2.St} {Q : VK} {m : M (List DE.D)} {st0 st : S} (j0 : JOk K mg J G H st0) (le : Same G H) (h : Post K mg J G H σ W (Rep K mg J) Q (M.bind m (fun ys => M.pure (.lst ys)) st)) : PostF K mg J G H σ W Q (m st) := by
  unfold M.bind at h
  cases e : m st with
  | stuck => rw [e] at h; exact h
  | err x st1 => rw [e] at h; exact h
  | ok xs st1 =>
    rw [e] at h
    intro a vs G' H' x j ha ga hH r
    exact h (.ref a) (upd G' a (.lst vs)) H' (x.joined hH le ha) (j.joined (j0.ne hH) ga) (.lst (.inl upd_same) (r.mono (Same.upd ga)))
theorem tF_D {X : Cx} {e : Expr} {f : Env → M (List DE.D)} (h : PE X e (tF X.K mg W f)) : PE X e (tD X.K mg W fun ρ => M.bind (f ρ) fun ys => M.pure (.lst ys)) := by
  refine PE.of h ?_
  rintro σ H Q ⟨J, G, ρ, st, w, h⟩
  exact ⟨J, G, ρ, st, w, PostF.of w.j w.le h⟩
/-- from a value's step on -/
theorem postF_bind {K : PySem.W.Frag} {J : Option Addr} {G H : Hp} {σ : L2.St} {Q : VK} {α β : Type} {Rp : Hp → α → β → Prop} {m : M α} {k : α → M (List DE.D)} {st : S} (h : PostF K mg J G H σ W Q (M.bind m k st)) :
    Post K mg J G H σ W Rp (fun b H1 => ∃ (a : α) (st1 : S) (G1 : Hp), m st = .ok a st1 ∧ Ext J G H G1 H1 ∧ JOk K mg J G1 H1 st1 ∧ Rp G1 a b ∧ PostF K mg J G H σ W Q (k a st1)) (m st) := by
  unfold M.bind at h
  cases e : m st with
  | ok a st1 =>
    rw [e] at h
    exact fun b G' H' y j rp => ⟨a, st1, G', rfl, y, j, rp, h⟩
  | err x st1 =>
    rw [e] at h
    exact h
  | stuck =>
    rw [e] at h
    exact h.elim
theorem pe_lstF {es : List Expr} {pos : Pos} {fs : Env → M (List DE.D)} (hs : PA X es (tDs X.K mg W fs)) (hl : ∀ ρ st ds st1, fs ρ st = .ok ds st1 → ds.length ≤ 1000000) : PE X (.List es pos) (tF X.K mg W fs) := by
  refine PE.of (pe_lst hs) ?_
  rintro σ H Q ⟨J, G, ρ, st, w, h⟩
  have h : PostF X.K mg J G H σ W Q (M.bind (fs ρ) (fun ds => M.pure ds) st) := by
    unfold M.bind
    cases e : fs ρ st <;> (rw [e] at h; exact h)
  refine ⟨J, G, ρ, st, w, (postF_bind h).imp ?_⟩
  rintro x H1 ⟨d1, st1, G1, e1, x1, j1, r1, h1⟩
  refine ⟨by rw [← r1.length]; exact small_line (hl _ _ _ _ e1), fun p hp => ?_⟩
  have hH : H p = none := by
    cases q : H p with
    | none => rfl
    | some o =>
      obtain ⟨o', e⟩ := x1.hj p o q
      rw [hp] at e
      cases e
  exact h1 p x G1 _ (x1.trans (Ext.lay x1.le hp)) (j1.touch (j1.ne hp)) upd_same (free_of x1.le hp) hH r1
def fComp (fi : Env → M (List D)) (tg : Tg) (vs : List Nat) (ft : Env → M Bool) (fe : Env → M D) : Env → M (List D) := fun ρ => M.bind (fi ρ) fun items =>
  M.bind (lift (few items)) fun items => compL (fun x => noErr (compT tg vs ρ ft fe x)) items
/-- the reading of a comprehension asks no more than this -/
theorem comp_te {K : PySem.W.Frag} {t : Tg} {vs : List Nat} {fi : Env → M (List D)} {ft : Env → M Bool} {fe : Env → M D} (hv : ∀ i ∈ tgVars t, i ∈ vs) {σ : L2.St} {H : Hp} {Q : VK} (h : tF K mg W (fComp fi t vs ft fe) σ H Q) :
    tLc (iD K mg W fi) (gD K mg t) (tDb K mg W0 ft) (tD K mg W0 fe) vs σ H Q := by
  obtain ⟨J, G, ρ, st, w, h⟩ := h
  refine ⟨J, G, ρ, st, w, (postF_bind (Rp := fun G items it => Walks K mg J G items it) h).imp ?_⟩
  rintro it H1 ⟨items, st1, G1, e1, x1, j1, wk, h1⟩
  cases e2 : few items with
  | none => rw [e2] at h1; exact h1.elim
  | some items' =>
  rw [e2] at h1
  have h2 : PostF K mg J G H σ W Q (compL (fun x => noErr (compT t vs ρ ft fe x)) items' st1) := h1
  obtain ⟨e3, hlen⟩ := few_some e2
  subst e3
  intro D hD
  have hJ := j1.ne hD
  have hG : G1 D = none := free_of x1.le hD
  generalize hstep : (fun x => noErr (compT t vs ρ ft fe x)) = step at h2
  refine ⟨fun i m H' => m = items'.length - i ∧ i ≤ items'.length ∧ ∃ (G' : Hp) (st' : S) (acc : List DE.D) (vs' : List V), Ext J G1 H1 G' H' ∧ JOk K mg J G' H' st' ∧ G' D = none ∧ H' D = some (.lst vs') ∧ Reps K mg J G' acc vs' ∧ acc.length ≤ i ∧
    PostF K mg J G H σ W Q (M.bind (compL step (items'.drop i)) (fun ys => M.pure (acc ++ ys)) st'),
    ⟨items'.length, rfl, Nat.zero_le _, G1, st1, [], [], Ext.lay x1.le hD, j1.touch hJ, hG, upd_same, .nil, Nat.le_refl _, (by have e : (M.bind (compL step (items'.drop 0)) (fun ys => M.pure ([] ++ ys)) st1) = compL step items' st1 := (by rw [List.drop_zero]; unfold M.bind; cases compL step items' st1 <;> rfl); rw [e]; exact h2)⟩, ?_⟩
  rintro i m H' ⟨rfl, hi', G', st', acc, vs', x', j', g', hD', ra, hl, hp⟩
  by_cases hlt : i < items'.length
  · right
    refine ⟨wk.go i G' H' x'.gg x'.le hlt, fun H'' => i + 1 ≤ items'.length ∧ ∃ (G' : Hp) (st' : S) (acc : List DE.D) (vs' : List V), Ext J G1 H1 G' H'' ∧ JOk K mg J G' H'' st' ∧ G' D = none ∧ H'' D = some (.lst vs') ∧ Reps K mg J G' acc vs' ∧ acc.length ≤ i + 1 ∧
      PostF K mg J G H σ W Q (M.bind (compL step (items'.drop (i + 1))) (fun ys => M.pure (acc ++ ys)) st'), fun H'' q => ⟨items'.length - (i + 1), by omega, rfl, q⟩, ?_⟩
    intro x H2 y
    obtain ⟨d, hd, hdrop⟩ := drop_get hlt
    obtain ⟨G2, x2, s2, r2⟩ := wk.yld i G' H' H2 x d x'.gg x'.le hd y
    rw [hdrop] at hp
    have hp : PostF K mg J G H σ W Q (M.bind (M.bind (step d) fun o => M.bind (compL step (items'.drop (i + 1))) fun ys => M.pure (consO o ys)) (fun ys => M.pure (acc ++ ys)) st') := hp
    rw [M.bind_assoc] at hp
    have j2 : JOk K mg J G2 H2 st' := j'.keep x2 s2
    have xx : Ext J G1 H1 G2 H2 := x'.trans x2
    have g2 : G2 D = none := by
      cases q : G2 D with
      | none => rfl
      | some u =>
        have := x2.fr D u g' q
        rw [hD'] at this
        cases this
    have hD2 : H2 D = some (.lst vs') := s2 _ _ hD'
    cases q : step d st' with
    | stuck => exfalso; unfold M.bind at hp; rw [q] at hp; exact hp
    | err ex st2 =>
      exfalso
      rw [← hstep] at q
      have q : noErr (compT t vs ρ ft fe d) st' = .err ex st2 := q
      unfold noErr at q
      split at q <;> first | cases q | (rename_i z; exact z ex st2 q)
    | ok o st2 =>
      have q0 := q
      rw [← hstep] at q0
      have q0 : noErr (compT t vs ρ ft fe d) st' = .ok o st2 := q0
      have q1 : compT t vs ρ ft fe d st' = .ok o st2 := by
        unfold noErr at q0
        split at q0
        · cases q0
        · exact q0
      obtain ⟨ρ2, b, st3, ea, eb, ec⟩ := compT_ok q1
      have hp2 : PostF K mg J G H σ W Q (M.bind (M.bind (compL step (items'.drop (i + 1))) fun ys => M.pure (consO o ys)) (fun ys => M.pure (acc ++ ys)) st2) := by
        unfold M.bind at hp
        rw [q] at hp
        exact hp
      rw [M.bind_assoc] at hp2
      refine ⟨J, G2, wipeE ρ vs, ρ2, d, (w.s.mono (x1.trans xx)).wipe _, x2.le, r2, ea, fun σ2 sr2 aw => ⟨?_, ?_⟩⟩
      · have a2 : Away vs (L2.wipe σ vs) σ2 := ⟨aw.1, fun i hi => aw.2 i (fun z => hi (hv i z))⟩
        rw [a2.wipe]
        apply List.ext_getElem?
        intro k
        rw [wipe_get, wipe_get, wipe_length]
        split <;> first | rfl | (rename_i z; rw [if_neg z])
      · refine ⟨J, G2, ρ2, st', ⟨sr2, x2.le, j2⟩, ?_⟩
        rw [eb]
        rintro b' G3 H3 x3 j3 rfl
        have g3 : G3 D = none := by
          cases q : G3 D with
          | none => rfl
          | some u =>
            have := x3.fr D u g2 q
            rw [hD2] at this
            cases this
        have hD3 : H3 D = some (.lst vs') := x3.hh _ _ hD2 hJ
        rcases ec with ⟨rfl, yv, ey, rfl⟩ | ⟨rfl, rfl, rfl⟩
        · refine iteT ⟨J, G3, ρ2, st3, ⟨sr2.mono x3, x3.le, j3⟩, ?_⟩
          rw [ey]
          intro v G4 H4 x4 j4 r4
          have g4 : G4 D = none := by
            cases q : G4 D with
            | none => rfl
            | some u =>
              have := x4.fr D u g3 q
              rw [hD3] at this
              cases this
          have hD4 : H4 D = some (.lst vs') := x4.hh _ _ hD3 hJ
          refine ⟨vs', hD4, ?_, hlt, G4, st2, acc ++ [yv], vs' ++ [v], ((xx.trans x3).trans x4).touch hD g4 ⟨_, hD4⟩, j4.touch hJ, g4, upd_same, ?_, ?_, ?_⟩
          · rw [← ra.length, sizeLine_eq]; omega
          · exact (((ra.mono x2.gg).mono x3.gg).mono x4.gg).append (.cons r4 .nil)
          · rw [List.length_append]; exact Nat.succ_le_succ hl
          · have e : (fun ys : List DE.D => M.pure (acc ++ [yv] ++ ys)) = fun ys => M.bind (M.pure (yv :: ys)) fun ys => M.pure (acc ++ ys) := by
              funext ys
              rw [M.pure_bind, List.append_assoc]
              rfl
            rw [e]
            exact hp2
        · refine iteF ⟨hlt, G3, st2, acc, vs', xx.trans x3, j3, g3, hD3, (ra.mono x2.gg).mono x3.gg, Nat.le_succ_of_le hl, ?_⟩
          exact hp2
  · left
    have e : i = items'.length := by omega
    subst e
    refine ⟨wk.stop _ G' H' x'.gg x'.le (Nat.le_refl _), ?_⟩
    rw [List.drop_length] at hp
    have hp : PostF K mg J G H σ W Q (M.pure (acc ++ []) st') := hp
    rw [List.append_nil] at hp
    have hH : H D = none := by
      cases q : H D with
      | none => rfl
      | some o =>
        obtain ⟨o', e⟩ := x1.hj D o q
        rw [hD] at e
        cases e
    exact hp D vs' G' H' (x1.trans x') j' hD' g' hH ra
theorem pe_compF {elt tg iter : Expr} {ifs : List Expr} {scope : Scope} {own : List (Str × Nat)} {pos : Pos} {t : Tg} {fi : Env → M (List D)} {ft : Env → M Bool} {fe : Env → M D} (hc : X.calm = true) (hN : X.N.Nodup)
    (hi : PI X tg iter (iD X.K mg W fi)) (ok : BlkOk X.N X.env.scope scope own)
    (hg : ∀ (s : Shared) (H : Hp) (C : Addr) (cl : List (Str × Addr)) (fp : List Addr), PG (X.blk s H scope (compEnvC scope cl C X.env) fp) tg (gD X.K mg t))
    (ht : ∀ (s : Shared) (H : Hp) (C : Addr) (cl : List (Str × Addr)) (fp : List Addr), PTs (X.blk s H scope (compEnvC scope cl C X.env) fp) ifs (tDb X.K mg W0 ft))
    (he : ∀ (s : Shared) (H : Hp) (C : Addr) (cl : List (Str × Addr)) (fp : List Addr), PE (X.blk s H scope (compEnvC scope cl C X.env) fp) elt (tD X.K mg W0 fe))
    (hv : ∀ i ∈ tgVars t, i ∈ own.map (·.2)) (hs : ∀ x, foldedSetIterable iter X.env x = pure x) :
    PE X (.ListComp elt [⟨tg, iter, ifs, 0⟩] scope pos) (tF X.K mg W (fComp fi t (own.map (·.2)) ft fe)) := by
  exact PE.of (pe_lc hc hN hi ok hg ht he hs) fun _ _ _ h => comp_te hv h
end
end DE
/-! Statements -/
namespace DE
open PySem PySem.Spec PyProof.Rows L2
/-- where a def's body stands; G0, H0: its entry -/
structure Rel (K : PySem.W.Frag) (mg : MG) (J : Option Addr) (G0 H0 : Hp) (σ : L2.St) (H : Hp) (ρ : Env) (G : Hp) (st : S) : Prop where
  now : Now K mg J σ H ρ G st
  ext : Ext J G0 H0 G H
  own : ∀ (i : Nat) (xs : List D) (a : Addr), ρ[i]? = some (.own xs) → σ[i]? = some (some (.ref a)) → H0 a = none
def RPost (K : PySem.W.Frag) (mg : MG) (J : Option Addr) (G0 H0 : Hp) (W : WX) (Dn : Ends) : RS → Prop
  | .nx ρ st => ∀ (σ : L2.St) (H G : Hp), Rel K mg J G0 H0 σ H ρ G st → Dn.nx σ H
  | .brk ρ st => ∀ (σ : L2.St) (H G : Hp), Rel K mg J G0 H0 σ H ρ G st → Dn.bk σ H
  | .cont ρ st => ∀ (σ : L2.St) (H G : Hp), Rel K mg J G0 H0 σ H ρ G st → Dn.ct σ H
  | .ret d st => ∀ (v : V) (H G : Hp), Ext J G0 H0 G H → JOk K mg J G H st → Rep K mg J G d v → Dn.rt v H
  | .err e ρ st => ∀ (cls : Value) (dd : Option Addr) (σ : L2.St) (H G : Hp), Rel K mg J G0 H0 σ H ρ G st → XRep K mg J e cls dd G H → W cls dd σ H
  | .stuck => False
def sD (K : PySem.W.Frag) (mg : MG) (W : WX) (f : Env → S → RS) : TS := fun Dn σ H => ∃ (J : Option Addr) (G0 H0 G : Hp) (ρ : Env) (st : S), Rel K mg J G0 H0 σ H ρ G st ∧ RPost K mg J G0 H0 W Dn (f ρ st)
section
variable {K : PySem.W.Frag} {mg : MG} {J : Option Addr} {G0 H0 G H G1 H1 : Hp} {σ : L2.St} {ρ : Env} {st st1 : S} {W : WX} {Dn : Ends}
theorem Rel.go (r : Rel K mg J G0 H0 σ H ρ G st) (x : Ext J G H G1 H1) (j : JOk K mg J G1 H1 st1) : Rel K mg J G0 H0 σ H1 ρ G1 st1 := ⟨r.now.go x j, r.ext.trans x, r.own⟩
theorem rel_bind {α β : Type} {Rp : Hp → α → β → Prop} {m : M α} {k : α → S → RS} (r : Rel K mg J G0 H0 σ H ρ G st) (h : RPost K mg J G0 H0 W Dn (bindS (m st) ρ k)) :
    Post K mg J G H σ W Rp (fun b H1 => ∃ (a : α) (st1 : S) (G1 : Hp), m st = .ok a st1 ∧ Ext J G H G1 H1 ∧ Rel K mg J G0 H0 σ H1 ρ G1 st1 ∧ Rp G1 a b ∧ RPost K mg J G0 H0 W Dn (k a st1)) (m st) := by
  cases e : m st with
  | ok a st1 =>
    rw [e] at h
    exact fun b G' H' x j rp => ⟨a, st1, G', rfl, x, r.go x j, rp, h⟩
  | err ex st1 =>
    rw [e] at h
    exact fun cls dd G' H' x j rp => h cls dd σ H' G' (r.go x j) rp
  | stuck => rw [e] at h; exact h
theorem ofO_some {α : Type} {o : Option α} {k : α → RS} (h : RPost K mg J G0 H0 W Dn (ofO o k)) : ∃ a, o = some a ∧ RPost K mg J G0 H0 W Dn (k a) := by
  cases o with
  | none => exact h.elim
  | some a => exact ⟨a, rfl, h⟩
/-- slots changed by data -/
theorem Rel.slots {σ' : L2.St} {ρ' : Env} (r : Rel K mg J G0 H0 σ H ρ G st) (s : SRel K mg J σ' H ρ' G) (o : ∀ (i : Nat) (xs : List D) (a : Addr), ρ'[i]? = some (.own xs) → σ'[i]? = some (some (.ref a)) → H0 a = none) : Rel K mg J G0 H0 σ' H ρ' G st := ⟨⟨s, r.now.le, r.now.j⟩, r.ext, o⟩
theorem Rel.set (r : Rel K mg J G0 H0 σ H ρ G st) {i : Nat} (hi : i < ρ.length) {d : D} {v : V} (rp : Rep K mg J G d v) : Rel K mg J G0 H0 (σ.set i (some v)) H (ρ.set i (.val d)) G st := by
  refine r.slots (r.now.s.set hi rp) fun j xs a e1 e2 => ?_
  rw [set_get hi] at e1
  rw [set_get (by rw [r.now.s.len]; exact hi)] at e2
  by_cases h : j = i
  · rw [if_pos h] at e1; cases e1
  · rw [if_neg h] at e1 e2
    exact r.own j xs a e1 e2
theorem Rel.clear (r : Rel K mg J G0 H0 σ H ρ G st) (i : Nat) : Rel K mg J G0 H0 (σ.set i none) H (ρ.set i .non) G st := by
  refine r.slots (r.now.s.clear i) fun j xs a e1 e2 => ?_
  by_cases hi : i < ρ.length
  · rw [set_get hi] at e1
    rw [set_get (by rw [r.now.s.len]; exact hi)] at e2
    by_cases h : j = i
    · rw [if_pos h] at e1; cases e1
    · rw [if_neg h] at e1 e2
      exact r.own j xs a e1 e2
  · rw [List.set_eq_of_length_le (by omega)] at e1
    rw [List.set_eq_of_length_le (by rw [r.now.s.len]; omega)] at e2
    exact r.own j xs a e1 e2
/-- assigned data keep what is owned elsewhere -/
theorem assign_own : (∀ (t : Tg) (d : D) (ρ ρ' : Env), assign t d ρ = some ρ' → ∀ i xs, ρ'[i]? = some (.own xs) → i ∉ tgVars t ∧ ρ[i]? = some (.own xs)) ∧ (∀ (ts : List Tg) (ds : List D) (ρ ρ' : Env), assigns ts ds ρ = some ρ' → ∀ i xs, ρ'[i]? = some (.own xs) → i ∉ tgsVars ts ∧ ρ[i]? = some (.own xs)) := by
  have nm : ∀ (j : Nat) (d : D) (ρ ρ' : Env), assign (.nm j) d ρ = some ρ' → ∀ i xs, ρ'[i]? = some (.own xs) → i ∉ tgVars (.nm j) ∧ ρ[i]? = some (.own xs) := by
    intro j d ρ ρ' h i xs e
    simp only [assign] at h
    split at h
    · rename_i hl
      cases h
      rw [set_get hl] at e
      by_cases q : i = j
      · rw [if_pos q] at e; cases e
      · rw [if_neg q] at e; exact ⟨by simpa [tgVars] using q, e⟩
    · cases h
  have key : ∀ n : Nat, (∀ (t : Tg) (d : D) (ρ ρ' : Env), sizeOf t < n → assign t d ρ = some ρ' → ∀ i xs, ρ'[i]? = some (.own xs) → i ∉ tgVars t ∧ ρ[i]? = some (.own xs)) ∧ (∀ (ts : List Tg) (ds : List D) (ρ ρ' : Env), sizeOf ts < n → assigns ts ds ρ = some ρ' → ∀ i xs, ρ'[i]? = some (.own xs) → i ∉ tgsVars ts ∧ ρ[i]? = some (.own xs)) := by
    intro n
    induction n with
    | zero => exact ⟨fun _ _ _ _ h => absurd h (Nat.not_lt_zero _), fun _ _ _ _ h => absurd h (Nat.not_lt_zero _)⟩
    | succ n ih =>
      refine ⟨fun t d ρ ρ' hn h i xs e => ?_, fun ts ds ρ ρ' hn h i xs e => ?_⟩
      · cases t with
        | nm j => exact nm j d ρ ρ' h i xs e
        | tp ts =>
          have hs : sizeOf ts < n := by simp only [Tg.tp.sizeOf_spec] at hn; omega
          cases d with
          | tup ds => simp only [assign] at h; simpa only [tgVars] using ih.2 ts ds ρ ρ' hs h i xs e
          | lst ds => simp only [assign] at h; simpa only [tgVars] using ih.2 ts ds ρ ρ' hs h i xs e
          | _ => simp only [assign] at h; cases h
      · cases ts with
        | nil => cases ds with
          | nil => simp only [assigns] at h; cases h; exact ⟨by simp [tgsVars], e⟩
          | cons _ _ => simp only [assigns] at h; cases h
        | cons t ts => cases ds with
          | nil => simp only [assigns] at h; cases h
          | cons d ds =>
            simp only [assigns] at h
            have hs : sizeOf t < n ∧ sizeOf ts < n := by simp only [List.cons.sizeOf_spec] at hn; omega
            cases q : assign t d ρ with
            | none => rw [q] at h; cases h
            | some ρ1 =>
              rw [q] at h
              obtain ⟨a1, b1⟩ := ih.2 ts ds ρ1 ρ' hs.2 h i xs e
              obtain ⟨a2, b2⟩ := ih.1 t d ρ ρ1 hs.1 q i xs b1
              exact ⟨by simp only [tgsVars, List.mem_append, not_or]; exact ⟨a2, a1⟩, b2⟩
  exact ⟨fun t d ρ ρ' h => (key (sizeOf t + 1)).1 t d ρ ρ' (Nat.lt_succ_self _) h, fun t d ρ ρ' h => (key (sizeOf t + 1)).2 t d ρ ρ' (Nat.lt_succ_self _) h⟩
theorem Rel.assign {t : Tg} {d : D} {ρ' : Env} {σ' : L2.St} (r : Rel K mg J G0 H0 σ H ρ G st) (h : assign t d ρ = some ρ') (s : SRel K mg J σ' H ρ' G) (a : Away (tgVars t) σ σ') : Rel K mg J G0 H0 σ' H ρ' G st := by
  refine r.slots s fun i xs ad e1 e2 => ?_
  obtain ⟨n, e⟩ := assign_own.1 t d ρ ρ' h i xs e1
  rw [a.2 i n] at e2
  exact r.own i xs ad e e2
end
section
variable {X : Cx} {mg : MG} {W : WX} {pos : Pos} {e : Expr} {f : Env → M D}
theorem ps_passD : PS X (.Pass pos) (sD X.K mg W fun ρ st => .nx ρ st) := PS.of ps_pass fun Dn σ H ⟨J, G0, H0, G, ρ, st, r, h⟩ => h σ H G r
theorem ps_brkD : PS X (.Break pos) (sD X.K mg W fun ρ st => .brk ρ st) := PS.of ps_break fun Dn σ H ⟨J, G0, H0, G, ρ, st, r, h⟩ => h σ H G r
theorem ps_contD : PS X (.Continue pos) (sD X.K mg W fun ρ st => .cont ρ st) := PS.of ps_continue fun Dn σ H ⟨J, G0, H0, G, ρ, st, r, h⟩ => h σ H G r
theorem ps_retND : PS X (.Return none pos) (sD X.K mg W fun _ st => .ret .non st) := PS.of ps_retN fun Dn σ H ⟨J, G0, H0, G, ρ, st, r, h⟩ => h .non H G r.ext r.now.j .non
theorem ps_exprD (he : PE X e (tD X.K mg W f)) (hs : swapsWith e none pos.line X.env = pure false) : PS X (.Expr e pos) (sD X.K mg W fun ρ st => bindS (f ρ st) ρ fun _ st' => .nx ρ st') := by
  refine PS.of (ps_expr he hs) ?_
  rintro Dn σ H ⟨J, G0, H0, G, ρ, st, r, h⟩
  refine ⟨J, G, ρ, st, r.now, (rel_bind r h).imp ?_⟩
  rintro x H1 ⟨d, st1, G1, e1, x1, r1, rp, h1⟩
  exact h1 σ H1 G1 r1
theorem ps_retD (he : PE X e (tD X.K mg W f)) : PS X (.Return (some e) pos) (sD X.K mg W fun ρ st => bindS (f ρ st) ρ fun d st' => .ret d st') := by
  refine PS.of (ps_ret he) ?_
  rintro Dn σ H ⟨J, G0, H0, G, ρ, st, r, h⟩
  refine ⟨J, G, ρ, st, r.now, (rel_bind r h).imp ?_⟩
  rintro x H1 ⟨d, st1, G1, e1, x1, r1, rp, h1⟩
  exact h1 x H1 G1 r1.ext r1.now.j rp
def fSet (t : Tg) (f : Env → M D) : Env → S → RS := fun ρ st => bindS (f ρ st) ρ fun d st' => ofO (assign t d ρ) fun ρ' => .nx ρ' st'
theorem ps_asgD {tg : Expr} {t : Tg} (he : PE X e (tD X.K mg W f)) (hg : PG X tg (gD X.K mg t)) (hs : swapsWithSole [tg] e pos.line X.env = pure false) (hw : swappedStores [tg] e X.env = pure none)
    (h1 : (assignEach [tg] X.env).map (·.2) = [PySem.assign tg X.env]) : PS X (.Assign [tg] e pos) (sD X.K mg W (fSet t f)) := by
  refine PS.of (ps_asg he hg hs hw h1) ?_
  rintro Dn σ H ⟨J, G0, H0, G, ρ, st, r, h⟩
  refine ⟨J, G, ρ, st, r.now, (rel_bind r h).imp ?_⟩
  rintro x H1 ⟨d, st1, G1, e1, x1, r1, rp, h1⟩
  obtain ⟨ρ', ea, h2⟩ := ofO_some h1
  exact ⟨J, G1, ρ, ρ', d, r1.now.s, r1.now.le, rp, ea, fun σ' s' a' => h2 σ' H1 G1 (r1.assign ea s' a')⟩
/-- name = value, value no comprehension -/
theorem ps_setD {i : Nat} {x : Str} {px : Pos} (hN : X.N.Nodup) (hi : X.N[i]? = some x) (hx : Loc X.env.scope x) (hf : X.fn x = true ∨ X.env.scope.names.lookup x = some .local) (he : PE X e (tD X.K mg W f))
    (hs : swapsWith e (some (.Name x px)) pos.line X.env = pure false) : PS X (.Assign [.Name x px] e pos) (sD X.K mg W (fSet (.nm i) f)) := by
  refine PS.of (ps_set hN hi hx he hs hf) ?_
  rintro Dn σ H ⟨J, G0, H0, G, ρ, st, r, h⟩
  refine ⟨J, G, ρ, st, r.now, (rel_bind r h).imp ?_⟩
  rintro x H1 ⟨d, st1, G1, e1, x1, r1, rp, h1⟩
  obtain ⟨ρ', ea, h2⟩ := ofO_some h1
  simp only [DE.assign] at ea
  split at ea
  · rename_i hl
    cases ea
    exact h2 _ H1 G1 (r1.set hl rp)
  · cases ea
/-! ### lists of one's own -/
def fOwn (i : Nat) (f : Env → M (List D)) : Env → S → RS := fun ρ st => bindS (f ρ st) ρ fun xs st' => if i < ρ.length then .nx (ρ.set i (.own xs)) st' else .stuck
theorem Rel.fresh {K : PySem.W.Frag} {J : Option Addr} {G0 H0 G H G1 H1 : Hp} {σ : L2.St} {ρ : Env} {st st1 : S} (r : Rel K mg J G0 H0 σ H ρ G st) {i : Nat} (hi : i < ρ.length) {xs : List D} {vs : List V} {a : Addr} (x : Ext J G H G1 H1) (j : JOk K mg J G1 H1 st1) (ha : H1 a = some (.lst vs))
    (ga : G1 a = none) (hH : H a = none) (rp : Reps K mg J G1 xs vs) : Rel K mg J G0 H0 (σ.set i (some (.ref a))) H1 (ρ.set i (.own xs)) G1 st1 := by
  have hJ := r.now.j.ne hH
  have h0 : H0 a = none := by
    cases q : H0 a with
    | none => rfl
    | some o =>
      obtain ⟨o', e⟩ := r.ext.hj a o q
      rw [hH] at e
      cases e
  have s := r.now.s
  have hiσ : i < σ.length := by rw [s.len]; exact hi
  have other : ∀ (k : Nat) (ys : List D), ρ[k]? = some (.own ys) → σ[k]? = some (some (.ref a)) → False := fun k ys e1 e2 => by
    obtain ⟨b, ws, eb, hb, _⟩ := s.at_ k _ e1
    rw [e2] at eb
    cases eb
    rw [hH] at hb
    cases hb
  refine ⟨⟨⟨by rw [List.length_set, List.length_set, s.len], fun k sl e => ?_, fun k l ys zs b e1 e2 e3 e4 => ?_⟩, x.le, j⟩, r.ext.trans x, fun k ys b e1 e2 => ?_⟩
  · rw [set_get hi] at e
    rw [set_get hiσ]
    by_cases h : k = i
    · rw [if_pos h] at e ⊢
      cases e
      exact ⟨a, vs, rfl, ha, ga, hJ, rp⟩
    · rw [if_neg h] at e ⊢
      exact (s.at_ k sl e).mono x
  · rw [set_get hi] at e1 e2
    rw [set_get hiσ] at e3 e4
    by_cases h : k = i
    · by_cases h' : l = i
      · rw [h, h']
      · rw [if_pos h] at e3
        rw [if_neg h'] at e2 e4
        cases e3
        exact (other l zs e2 e4).elim
    · by_cases h' : l = i
      · rw [if_pos h'] at e4
        rw [if_neg h] at e1 e3
        cases e4
        exact (other k ys e1 e3).elim
      · rw [if_neg h] at e1 e3
        rw [if_neg h'] at e2 e4
        exact s.inj k l ys zs b e1 e2 e3 e4
  · rw [set_get hi] at e1
    rw [set_get hiσ] at e2
    by_cases h : k = i
    · rw [if_pos h] at e2
      cases e2
      exact h0
    · rw [if_neg h] at e1 e2
      exact r.own k ys b e1 e2
theorem relF {K : PySem.W.Frag} {J : Option Addr} {G0 H0 G H : Hp} {σ : L2.St} {ρ : Env} {st : S} {Dn : Ends} {m : M (List D)} {k : List D → S → RS} {Q : VK} (r : Rel K mg J G0 H0 σ H ρ G st) (h : RPost K mg J G0 H0 W Dn (bindS (m st) ρ k))
    (q : ∀ (a : Addr) (vs : List V) (xs : List D) (st1 : S) (G1 H1 : Hp), Ext J G H G1 H1 → JOk K mg J G1 H1 st1 → H1 a = some (.lst vs) → G1 a = none → H a = none → Reps K mg J G1 xs vs → RPost K mg J G0 H0 W Dn (k xs st1) → Q (.ref a) H1) : PostF K mg J G H σ W Q (m st) := by
  cases e : m st with
  | ok xs st1 => rw [e] at h; exact fun a vs G' H' x j ha ga hH rp => q a vs xs st1 G' H' x j ha ga hH rp h
  | err ex st1 => rw [e] at h; exact fun cls dd G' H' x j rp => h cls dd σ H' G' (r.go x j) rp
  | stuck => rw [e] at h; exact h
theorem ps_ownD {i : Nat} {x : Str} {px : Pos} {f : Env → M (List D)} (hN : X.N.Nodup) (hi : X.N[i]? = some x) (hx : Loc X.env.scope x) (hf : X.fn x = true ∨ X.env.scope.names.lookup x = some .local) (he : PE X e (tF X.K mg W f))
    (hs : swapsWith e (some (.Name x px)) pos.line X.env = pure false) : PS X (.Assign [.Name x px] e pos) (sD X.K mg W (fOwn i f)) := by
  refine PS.of (ps_set hN hi hx he hs hf) ?_
  rintro Dn σ H ⟨J, G0, H0, G, ρ, st, r, h⟩
  refine ⟨J, G, ρ, st, r.now, relF r h fun a vs xs st1 G1 H1 x j ha ga hH rp h1 => ?_⟩
  by_cases hl : i < ρ.length
  · rw [if_pos hl] at h1
    exact h1 _ H1 G1 (r.fresh hl x j ha ga hH rp)
  · rw [if_neg hl] at h1
    exact h1.elim
end
end DE
/-! Statements: lists in place, branches, loops, blocks -/
namespace DE
open PySem PySem.Spec PyProof.Rows L2
section
variable {K : PySem.W.Frag} {mg : MG} {J : Option Addr} {G0 H0 G H G1 H1 : Hp} {σ : L2.St} {ρ : Env} {st st1 : S} {W : WX} {Dn : Ends}
theorem getOwn_some {i : Nat} {xs : List D} (h : getOwn ρ i = some xs) : ρ[i]? = some (.own xs) := by
  unfold getOwn at h
  split at h
  · rename_i e; cases h; exact e
  · cases h
theorem lt_of_get {α : Type} {l : List α} {i : Nat} {x : α} (h : l[i]? = some x) : i < l.length := (List.getElem?_eq_some_iff.mp h).1
/-- a list of one's own is changed -/
theorem Rel.touch (r : Rel K mg J G0 H0 σ H ρ G st) {i : Nat} {xs xs' : List D} {vs' : List V} {a : Addr} (hi : ρ[i]? = some (.own xs)) (ha : σ[i]? = some (some (.ref a))) (rp : Reps K mg J G xs' vs') :
    Rel K mg J G0 H0 σ (upd H a (.lst vs')) (ρ.set i (.own xs')) G st := by
  have s := r.now.s
  have hl := lt_of_get hi
  obtain ⟨b, vs, eb, hb, gb, jb, _⟩ := s.at_ i _ hi
  rw [ha] at eb
  cases eb
  have h0 := r.own i xs a hi ha
  refine ⟨⟨⟨by rw [List.length_set, s.len], fun k sl e => ?_, fun k l ys zs c e1 e2 e3 e4 => ?_⟩, (r.ext.touch h0 gb ⟨_, hb⟩).le, r.now.j.touch jb⟩, r.ext.touch h0 gb ⟨_, hb⟩, fun k ys c e1 e2 => ?_⟩
  · rw [set_get hl] at e
    by_cases h : k = i
    · rw [if_pos h] at e
      cases e
      rw [h]
      exact ⟨a, vs', ha, upd_same, gb, jb, rp⟩
    · rw [if_neg h] at e
      have q := s.at_ k sl e
      cases sl with
      | non => exact True.intro
      | val d => exact q
      | own ys =>
        obtain ⟨c, ws, ec, hc, gc, jc, rc⟩ := q
        have hne : c ≠ a := fun z => h (s.inj k i ys xs a e hi (by rw [← z]; exact ec) ha)
        exact ⟨c, ws, ec, by rw [upd_ne hne]; exact hc, gc, jc, rc⟩
  · rw [set_get hl] at e1 e2
    have f1 : ∃ ys', ρ[k]? = some (.own ys') := by
      by_cases h : k = i
      · exact ⟨xs, by rw [h]; exact hi⟩
      · rw [if_neg h] at e1; exact ⟨_, e1⟩
    have f2 : ∃ ys', ρ[l]? = some (.own ys') := by
      by_cases h : l = i
      · exact ⟨xs, by rw [h]; exact hi⟩
      · rw [if_neg h] at e2; exact ⟨_, e2⟩
    obtain ⟨y1, g1⟩ := f1
    obtain ⟨y2, g2⟩ := f2
    exact s.inj k l y1 y2 c g1 g2 e3 e4
  · rw [set_get hl] at e1
    by_cases h : k = i
    · rw [h] at e2; exact r.own i xs c hi e2
    · rw [if_neg h] at e1; exact r.own k ys c e1 e2
theorem Rel.freeze (r : Rel K mg J G0 H0 σ H ρ G st) (i : Nat) : ∃ G', Rel K mg J G0 H0 σ H (DE.freeze ρ i) G' st := by
  unfold DE.freeze
  split
  · rename_i xs hi
    have s := r.now.s
    have hl := lt_of_get hi
    obtain ⟨a, vs, ea, ha, ga, ja, rp⟩ := s.at_ i _ hi
    have h0 := r.own i xs a hi ea
    refine ⟨upd G a (.lst vs), ⟨⟨by rw [List.length_set, s.len], fun k sl e => ?_, fun k l ys zs c e1 e2 e3 e4 => ?_⟩, Ext.join r.now.le ha, r.now.j.joined ja ga⟩, ?_, fun k ys c e1 e2 => ?_⟩
    · rw [set_get hl] at e
      by_cases h : k = i
      · rw [if_pos h] at e
        cases e
        rw [h]
        exact ⟨.ref a, ea, .lst (.inl upd_same) (rp.mono (Same.upd ga))⟩
      · rw [if_neg h] at e
        have q := s.at_ k sl e
        cases sl with
        | non => exact True.intro
        | val d =>
          obtain ⟨v, e, rv⟩ := q
          exact ⟨v, e, rv.mono (Same.upd ga)⟩
        | own ys =>
          obtain ⟨c, ws, ec, hc, gc, jc, rc⟩ := q
          have hne : c ≠ a := fun z => h (s.inj k i ys xs a e hi (by rw [← z]; exact ec) ea)
          exact ⟨c, ws, ec, hc, by rw [upd_ne hne]; exact gc, jc, rc.mono (Same.upd ga)⟩
    · rw [set_get hl] at e1 e2
      by_cases h : k = i
      · rw [if_pos h] at e1; cases e1
      · by_cases h' : l = i
        · rw [if_pos h'] at e2; cases e2
        · rw [if_neg h] at e1
          rw [if_neg h'] at e2
          exact s.inj k l ys zs c e1 e2 e3 e4
    · have x := r.ext
      exact ⟨Ext.join x.le ha, fun b u q => by
          have := x.gg b u q
          rw [upd_ne (ne_of_none this ga)]; exact this, x.hh, x.hj, fun b u q q' => by
          by_cases hb : b = a
          · rw [hb]; exact h0
          · rw [upd_ne hb] at q'; exact x.fr b u q q'⟩
    · rw [set_get hl] at e1
      by_cases h : k = i
      · rw [if_pos h] at e1; cases e1
      · rw [if_neg h] at e1; exact r.own k ys c e1 e2
  · exact ⟨G, r⟩
theorem Rel.freezes (r : Rel K mg J G0 H0 σ H ρ G st) (is : List Nat) : ∃ G', Rel K mg J G0 H0 σ H (is.foldl DE.freeze ρ) G' st := by
  induction is generalizing ρ G with
  | nil => exact ⟨G, r⟩
  | cons i is ih =>
    obtain ⟨G', r'⟩ := r.freeze i
    exact ih r'
/-! ### the ground as it stands, as the base -/
theorem Ext.rebase (x : Ext J G0 H0 G1 H1) : Ext J G1 H0 G1 H1 := ⟨x.le, fun _ _ e => e, x.hh, x.hj, fun a o e e' => by rw [e] at e'; cases e'⟩
theorem Ext.unbase (x : Ext J G0 H0 G1 H1) (y : Ext J G1 H0 G H) : Ext J G0 H0 G H := ⟨y.le, fun a o e => y.gg a o (x.gg a o e), y.hh, y.hj, fun a o e e' => by
  cases q : G1 a with
  | some u => exact x.fr a u e q
  | none => exact y.fr a o q e'⟩
theorem Rel.rebase (r : Rel K mg J G0 H0 σ H ρ G st) : Rel K mg J G H0 σ H ρ G st := ⟨r.now, r.ext.rebase, r.own⟩
theorem Rel.unbase (x : Ext J G0 H0 G1 H1) (r : Rel K mg J G1 H0 σ H ρ G st) : Rel K mg J G0 H0 σ H ρ G st := ⟨r.now, x.unbase r.ext, r.own⟩
theorem RPost.rebase {r : RS} (x : Ext J G0 H0 G1 H1) (h : RPost K mg J G0 H0 W Dn r) : RPost K mg J G1 H0 W Dn r := by
  cases r with
  | nx ρ st => exact fun σ H G rl => h σ H G (Rel.unbase x rl)
  | brk ρ st => exact fun σ H G rl => h σ H G (Rel.unbase x rl)
  | cont ρ st => exact fun σ H G rl => h σ H G (Rel.unbase x rl)
  | ret d st => exact fun v H G y j rp => h v H G (x.unbase y) j rp
  | err e ρ st => exact fun cls dd σ H G rl xr => h cls dd σ H G (Rel.unbase x rl) xr
  | stuck => exact h
end
section
variable {X : Cx} {mg : MG} {W : WX} {pos : Pos} {e c : Expr} {f g : Env → M D}
/-- what reading a slot of one's own list gives -/
theorem Rel.ownAt {K : PySem.W.Frag} {J : Option Addr} {G0 H0 G H : Hp} {σ : L2.St} {ρ : Env} {st : S} (r : Rel K mg J G0 H0 σ H ρ G st) {i : Nat} {xs : List D} (h : getOwn ρ i = some xs) : ∃ (a : Addr) (vs : List V), ρ[i]? = some (.own xs) ∧ σ[i]? = some (some (.ref a)) ∧ H a = some (.lst vs) ∧ G a = none ∧ J ≠ some a ∧ Reps K mg J G xs vs := by
  have hi := getOwn_some h
  obtain ⟨a, vs, ea, ha, ga, ja, rp⟩ := r.now.s.at_ i _ hi
  exact ⟨a, vs, hi, ea, ha, ga, ja, rp⟩
def fApp (i : Nat) (f : Env → M D) : Env → S → RS := fun ρ st => ofO (getOwn ρ i) fun xs => bindS (f ρ st) ρ fun d st' => if xs.length < 1000000 then .nx (ρ.set i (.own (xs ++ [d]))) st' else .stuck
theorem ps_appD {i : Nat} {x : Str} {px p1 p2 : Pos} (hN : X.N[i]? = some x) (hv : Vis X.env.scope x) (hd : (x == ("__debug__" : Str)) = false) (hcd : (x == ("__classdict__" : Str)) = false) (he : PE X e (tD X.K mg W f)) (h1 : isStar e = false)
    (hbase : attributeBase (.Name x px) "append" X.env (eval (.Name x px) X.env) = eval (.Name x px) X.env) (hline : (p1.endLine == p2.line) = true) :
    PS X (.Expr (.Call (.Attribute (.Name x px) "append" p1) [e] [] p2) pos) (sD X.K mg W (fApp i f)) := by
  refine PS.of (ps_expr (pe_bm PySem.F.plainAttrs_list PySem.F.slot_list_append PySem.F.type_list_append mt_append (pe_var hN hv hd hcd) (pa_cons he pa_nil (star1 h1)) hbase (by rw [star1 h1]; rfl) hline (star1 h1) rfl)) ?_
  rintro Dn σ H ⟨J, G0, H0, G, ρ, st, r, h⟩
  obtain ⟨xs, ho, h⟩ := ofO_some h
  obtain ⟨a, vs, hi, ea, ha, ga, ja, rp⟩ := r.ownAt ho
  refine ⟨_, ea, .inl ⟨rfl, vs, .inl (.inl ha)⟩, J, G, ρ, st, r.now, (rel_bind r h).imp ?_⟩
  rintro y H1 ⟨d, st1, G1, e1, x1, r1, rd, h1⟩
  have hz : xs.length < 1000000 := by
    cases Nat.lt_or_ge xs.length 1000000 with
    | inl z => exact z
    | inr z => rw [if_neg (by omega)] at h1; exact h1.elim
  rw [if_pos hz] at h1
  have rp1 := rp.mono x1.gg
  refine ⟨a, vs, y, rfl, rfl, x1.hh _ _ ha ja, ?_, h1 σ _ G1 (r1.touch hi ea (rp1.append (.cons rd .nil)))⟩
  rw [← rp.length, sizeLine_eq]; omega
def isSlice : Expr → Bool
  | .Slice _ _ _ _ => true
  | _ => false
theorem sub_asg {o i : Expr} {pos : Pos} {env : PySem.Env} (h : isSlice i = false) (v : Value) : PySem.assign (.Subscript o i pos) env v = (do
      let ov ← holding [v] (eval o env)
      let iv ← holding [v, ov] (eval i env)
      standAt pos
      holding [v, ov, iv] (setItem ov iv v)
      release [v, ov, iv] []) := by
  cases i <;> first | rfl | cases h
theorem swaps_other {e : Expr} {t : Expr} {l : Nat} {env : PySem.Env} (h : ∀ x p, t ≠ .Name x p) : swapsWithSole [t] e l env = pure false := by
  show swapsWith e (some t) l env = pure false
  cases e <;> first | rfl | (cases t <;> first | rfl | exact absurd rfl (h _ _))
def fPut (i : Nat) (fk fv : Env → M D) : Env → S → RS := fun ρ st => bindS (fv ρ st) ρ fun d st' => ofO (getOwn ρ i) fun xs => bindS (fk ρ st') ρ fun ix st'' => ofO (isInt ix) fun n => ofO (ixN xs.length n) fun j => .nx (ρ.set i (.own (xs.set j d))) st''
theorem ps_putD {i : Nat} {x : Str} {px p1 : Pos} {k : Expr} {fk fv : Env → M D} (hN : X.N[i]? = some x) (hv : Vis X.env.scope x) (hd : (x == ("__debug__" : Str)) = false) (hcd : (x == ("__classdict__" : Str)) = false) (hk : PE X k (tD X.K mg W fk)) (he : PE X e (tD X.K mg W fv))
    (hs : isSlice k = false) : PS X (.Assign [.Subscript (.Name x px) k p1] e pos) (sD X.K mg W (fPut i fk fv)) := by
  refine PS.of (ps_asg he (pg_sub (pe_var hN hv hd hcd) hk set_list (sub_asg hs)) (swaps_other (fun _ _ z => nomatch z)) rfl rfl) ?_
  rintro Dn σ H ⟨J, G0, H0, G, ρ, st, r, h⟩
  refine ⟨J, G, ρ, st, r.now, (rel_bind r h).imp ?_⟩
  rintro y H1 ⟨d, st1, G1, e1, x1, r1, rd, h1⟩
  obtain ⟨xs, ho, h1⟩ := ofO_some h1
  obtain ⟨a, vs, hi, ea, ha, ga, ja, rp⟩ := r1.ownAt ho
  refine ⟨_, ea, J, G1, ρ, st1, r1.now, (rel_bind r1 h1).imp ?_⟩
  rintro z H2 ⟨ix, st2, G2, e2, x2, r2, ri, h2⟩
  obtain ⟨n, en, h3⟩ := ofO_some h2
  obtain ⟨j, ej, h4⟩ := ofO_some h3
  cases ri with
  | int m =>
    cases en
    refine ⟨a, vs, _, j, rfl, rfl, x2.hh _ _ ha ja, by rw [← rp.length]; exact ej, h4 σ _ G2 (r2.touch hi ea ((rp.mono x2.gg).set (rd.mono x2.gg) j))⟩
  | _ => cases en
/-- the one list in place -/
theorem Rel.jput {K : PySem.W.Frag} {J : Option Addr} {G0 H0 G H : Hp} {σ : L2.St} {ρ : Env} {st st' : S} {a : Addr} {vs : List V} (r : Rel K mg J G0 H0 σ H ρ G st) (hj : J = some a) (rp : Reps K mg J G st' vs) : Rel K mg J G0 H0 σ (upd H a (.lst vs)) ρ G st' := by
  subst hj
  obtain ⟨g, ws, hw, _⟩ := r.now.j
  have x : Ext (some a) G H G (upd H a (.lst vs)) := ⟨fun b u q => by rw [upd_ne (ne_of_none q g)]; exact r.now.le b u q, fun _ _ q => q, fun b u q n => by rw [upd_ne (fun z => n (by rw [z]))]; exact q, fun b u q => by
    by_cases hb : b = a
    · rw [hb]; exact ⟨_, upd_same⟩
    · exact ⟨u, by rw [upd_ne hb]; exact q⟩, fun b u q q' => by rw [q] at q'; cases q'⟩
  exact r.go x ⟨g, vs, upd_same, rp⟩
def fJput (fj fk fv : Env → M D) : Env → S → RS := fun ρ st => bindS (fv ρ st) ρ fun d st1 => bindS (fj ρ st1) ρ fun o st2 => bindS (fk ρ st2) ρ fun ix st3 => match o with
    | .jug => ofO (isInt ix) fun n => ofO (ixN st3.length n) fun m => .nx ρ (st3.set m d)
    | _ => .stuck
theorem ps_jputD {p1 : Pos} {j k : Expr} {fj fk fv : Env → M D} (hj : PE X j (tD X.K mg W fj)) (hk : PE X k (tD X.K mg W fk)) (he : PE X e (tD X.K mg W fv)) (hs : isSlice k = false) : PS X (.Assign [.Subscript j k p1] e pos) (sD X.K mg W (fJput fj fk fv)) := by
  refine PS.of (ps_asg he (pg_sub hj hk set_list (sub_asg hs)) (swaps_other (fun _ _ z => nomatch z)) rfl rfl) ?_
  rintro Dn σ H ⟨J, G0, H0, G, ρ, st, r, h⟩
  refine ⟨J, G, ρ, st, r.now, (rel_bind r h).imp ?_⟩
  rintro y H1 ⟨d, st1, G1, e1, x1, r1, rd, h1⟩
  refine ⟨J, G1, ρ, st1, r1.now, (rel_bind r1 h1).imp ?_⟩
  rintro o H2 ⟨od, st2, G2, e2, x2, r2, ro, h2⟩
  refine ⟨J, G2, ρ, st2, r2.now, (rel_bind r2 h2).imp ?_⟩
  rintro z H3 ⟨ix, st3, G3, e3, x3, r3, ri, h3⟩
  cases ro with
  | jug hJ =>
    obtain ⟨n, en, h4⟩ := ofO_some h3
    obtain ⟨m, em, h5⟩ := ofO_some h4
    have jj := r3.now.j
    subst hJ
    obtain ⟨gj, vs, hvs, rvs⟩ := jj
    cases ri with
    | int q =>
      cases en
      exact ⟨_, vs, _, m, rfl, rfl, hvs, by rw [← rvs.length]; exact em, h5 σ _ G3 (r3.jput rfl (rvs.set ((rd.mono x2.gg).mono x3.gg) m))⟩
    | _ => cases en
  | _ => exact h3.elim
/-! ### blocks and branches -/
def fSeq (f g : Env → S → RS) : Env → S → RS := fun ρ st => match f ρ st with
    | .nx ρ' st' => g ρ' st'
    | .ret d st' => .ret d st'
    | .brk ρ' st' => .brk ρ' st'
    | .cont ρ' st' => .cont ρ' st'
    | .err e ρ' st' => .err e ρ' st'
    | .stuck => .stuck
theorem pss_nilD : PSs X [] (sD X.K mg W fun ρ st => .nx ρ st) := PSs.of pss_nil fun Dn σ H ⟨J, G0, H0, G, ρ, st, r, h⟩ => h σ H G r
theorem pss_consD {s : Stmt} {rest : List Stmt} {f g : Env → S → RS} (h1 : PS X s (sD X.K mg W f)) (h2 : PSs X rest (sD X.K mg W g)) : PSs X (s :: rest) (sD X.K mg W (fSeq f g)) := by
  refine PSs.of (pss_cons h1 h2) ?_
  rintro Dn σ H ⟨J, G0, H0, G, ρ, st, r, h⟩
  refine ⟨J, G0, H0, G, ρ, st, r, ?_⟩
  unfold fSeq at h
  cases e : f ρ st with
  | nx ρ' st' => rw [e] at h; exact fun σ' H' G' r' => ⟨J, G0, H0, G', ρ', st', r', h⟩
  | ret d st' => rw [e] at h; exact h
  | brk ρ' st' => rw [e] at h; exact h
  | cont ρ' st' => rw [e] at h; exact h
  | err ex ρ' st' => rw [e] at h; exact h
  | stuck => rw [e] at h; exact h
/-- names that escape join the ground, ahead of the block -/
theorem pss_frz {is : List Nat} {ss : List Stmt} {f : Env → S → RS} (h : PSs X ss (sD X.K mg W f)) : PSs X ss (sD X.K mg W fun ρ st => f (is.foldl freeze ρ) st) := by
  refine PSs.of h ?_
  rintro Dn σ H ⟨J, G0, H0, G, ρ, st, r, h⟩
  obtain ⟨G', r'⟩ := r.freezes is
  exact ⟨J, G0, H0, G', _, st, r', h⟩
def fIf (fc : Env → M D) (f g : Env → S → RS) : Env → S → RS := fun ρ st => bindS (fc ρ st) ρ fun x st' => ofO (truD x) fun k => match k with
    | true => f ρ st'
    | false => g ρ st'
theorem ps_ifD {a b : List Stmt} {fc : Env → M D} {f g : Env → S → RS} (hc : PT X c (tT X.K mg W fc)) (ha : PSs X a (sD X.K mg W f)) (hb : PSs X b (sD X.K mg W g)) : PS X (.If c a b pos) (sD X.K mg W (fIf fc f g)) := by
  refine PS.of (ps_if hc ha hb) ?_
  rintro Dn σ H ⟨J, G0, H0, G, ρ, st, r, h⟩
  have e : fIf fc f g ρ st = bindS (tst fc ρ st) ρ fun k st' => match k with | true => f ρ st' | false => g ρ st' := by
    unfold fIf tst M.bind
    cases fc ρ st with
    | ok x st' =>
      show ofO (truD x) _ = bindS (lift (truD x) st') ρ _
      cases truD x <;> rfl
    | err _ _ => rfl
    | stuck => rfl
  rw [e] at h
  refine ⟨J, G, ρ, st, r.now, (rel_bind (Rp := fun _ (a b : Bool) => a = b) r h).imp ?_⟩
  rintro k H1 ⟨k, st1, G1, e1, x1, r1, rfl, h1⟩
  cases k with
  | true => exact iteT ⟨J, G0, H0, G1, ρ, st1, r1, h1⟩
  | false => exact iteF ⟨J, G0, H0, G1, ρ, st1, r1, h1⟩
def fAug (i : Nat) (o : BOp) (f : Env → M D) : Env → S → RS := fun ρ st => ofO (getVar ρ i) fun x => bindS (f ρ st) ρ fun y st' => ofO (augD o x y) fun z => .nx (ρ.set i (.val z)) st'
theorem ps_augD {i : Nat} {x : Str} {px : Pos} {o : BOp} (ho : o = .add ∨ o = .sub) (hN : X.N.Nodup) (hi : X.N[i]? = some x) (hx : Loc X.env.scope x) (hf : X.fn x = true ∨ X.env.scope.names.lookup x = some .local) (he : PE X e (tD X.K mg W f)) :
    PS X (.AugAssign (.Name x px) (bop o) e pos) (sD X.K mg W (fAug i o f)) := by
  have key : ∀ (g : Int → Int → Int), (∀ a b z, augD o a b = some z → ∃ m n, a = .int m ∧ b = .int n ∧ z = .int (g m n)) → ∀ Dn σ H, sD X.K mg W (fAug i o f) Dn σ H → tAug i (tD X.K mg W f) (ipI g) Dn σ H := by
    rintro g hg Dn σ H ⟨J, G0, H0, G, ρ, st, r, h⟩
    obtain ⟨a, ea, h⟩ := ofO_some h
    obtain ⟨v, ev, rv⟩ := r.now.s.get ea
    refine ⟨v, ev, J, G, ρ, st, r.now, (rel_bind r h).imp ?_⟩
    rintro y H1 ⟨d, st1, G1, e1, x1, r1, rd, h1⟩
    obtain ⟨z, ez, h1⟩ := ofO_some h1
    obtain ⟨m, n, rfl, rfl, rfl⟩ := hg a d z ez
    cases rv
    cases rd
    have hl : i < ρ.length := by
      rw [← r.now.s.len]
      exact lt_of_get ev
    exact ⟨m, n, rfl, rfl, h1 _ H1 G1 (r1.set hl (.int _))⟩
  rcases ho with rfl | rfl
  · exact PS.of (ps_aug hN hi hx he ip_add hf) (key _ fun a b z h => by
      cases a <;> cases b <;> first | (cases h; exact ⟨_, _, rfl, rfl, rfl⟩) | cases h)
  · exact PS.of (ps_aug hN hi hx he ip_sub hf) (key _ fun a b z h => by
      cases a <;> cases b <;> first | (cases h; exact ⟨_, _, rfl, rfl, rfl⟩) | cases h)
/-! ### for -/
def fLoop (fi : Env → M (List D)) (t : Tg) (fb : Env → S → RS) : Env → S → RS := fun ρ st => bindS (fi ρ st) ρ fun items st' => forL (fun x ρ1 st1 => ofO (assign t x ρ1) fun ρ2 => fb ρ2 st1) items ρ st'
theorem ps_forD {tg iter : Expr} {t : Tg} {body : List Stmt} {fi : Env → M (List D)} {fb : Env → S → RS} (hp : PassesOwn (model X.prog X.w) X.A X.env X.xe) (hc : X.calm = true) (hi : PI X tg iter (iD X.K mg W fi)) (hg : PG X tg (gD X.K mg t)) (hb : PSs X body (sD X.K mg W fb))
    (hs : ∀ x, foldedSetIterable iter X.env x = pure x) : PS X (.For tg iter body [] pos) (sD X.K mg W (fLoop fi t fb)) := by
  refine PS.of (ps_for hp hc hi hg hb hs) ?_
  rintro Dn σ H ⟨J, G0, H0, G, ρ, st, r, h⟩
  refine ⟨J, G, ρ, st, r.now, (rel_bind (Rp := fun G items it => Walks X.K mg J G items it) r h).imp ?_⟩
  rintro it H1 ⟨items, st1, G1, e1, x1, r1, wk, h1⟩
  have hx := r1.ext
  have h2 := RPost.rebase hx h1
  generalize hstep : (fun x ρ1 st1 => ofO (DE.assign t x ρ1) fun ρ2 => fb ρ2 st1) = step at h2
  refine ⟨fun i m σ' H' => m = items.length - i ∧ i ≤ items.length ∧ ∃ (G' : Hp) (ρ' : Env) (st' : S), Rel X.K mg J G1 H0 σ' H' ρ' G' st' ∧ RPost X.K mg J G1 H0 W Dn (forL step (items.drop i) ρ' st'),
    ⟨items.length, rfl, Nat.zero_le _, G1, ρ, st1, r1.rebase, h2⟩, ?_⟩
  rintro i m σ' H' ⟨rfl, hi', G', ρ', st', r', p'⟩
  by_cases hlt : i < items.length
  · right
    refine ⟨wk.go i G' H' r'.ext.gg r'.now.le hlt, fun σ'' H'' => i + 1 ≤ items.length ∧ ∃ (G' : Hp) (ρ' : Env) (st' : S), Rel X.K mg J G1 H0 σ'' H'' ρ' G' st' ∧ RPost X.K mg J G1 H0 W Dn (forL step (items.drop (i + 1)) ρ' st'),
      fun σ'' H'' q => ⟨items.length - (i + 1), by omega, rfl, q⟩, ?_⟩
    intro x H2 y
    obtain ⟨d, hd, hdrop⟩ := drop_get hlt
    obtain ⟨G2, x2, s2, rd⟩ := wk.yld i G' H' H2 x d r'.ext.gg r'.now.le hd y
    have r2 : Rel X.K mg J G1 H0 σ' H2 ρ' G2 st' := r'.go x2 (r'.now.j.keep x2 s2)
    rw [hdrop] at p'
    unfold forL at p'
    have es : step d ρ' st' = ofO (DE.assign t d ρ') fun ρ2 => fb ρ2 st' := by rw [← hstep]
    cases ea : DE.assign t d ρ' with
    | none => rw [es, ea] at p'; exact p'.elim
    | some ρ2 =>
      rw [es, ea] at p'
      refine ⟨J, G2, ρ', ρ2, d, r2.now.s, r2.now.le, rd, ea, fun σ3 s3 a3 => ?_⟩
      have r3 := r2.assign ea s3 a3
      refine ⟨J, G1, H0, G2, ρ2, st', r3, ?_⟩
      have p' : RPost X.K mg J G1 H0 W Dn (match fb ρ2 st' with
        | .nx ρ' st' => forL step (items.drop (i + 1)) ρ' st'
        | .cont ρ' st' => forL step (items.drop (i + 1)) ρ' st'
        | .brk ρ' st' => .nx ρ' st'
        | .ret d st' => .ret d st'
        | .err e ρ' st' => .err e ρ' st'
        | .stuck => .stuck) := p'
      cases eb : fb ρ2 st' with
      | nx ρ4 st4 => rw [eb] at p'; exact fun σ5 H5 G5 r5 => ⟨hlt, G5, ρ4, st4, r5, p'⟩
      | cont ρ4 st4 => rw [eb] at p'; exact fun σ5 H5 G5 r5 => ⟨hlt, G5, ρ4, st4, r5, p'⟩
      | brk ρ4 st4 => rw [eb] at p'; exact p'
      | ret d4 st4 => rw [eb] at p'; exact p'
      | err e4 ρ4 st4 => rw [eb] at p'; exact p'
      | stuck => rw [eb] at p'; exact p'.elim
  · left
    have e : i = items.length := by omega
    subst e
    rw [List.drop_length] at p'
    exact ⟨wk.stop _ G' H' r'.ext.gg r'.now.le (Nat.le_refl _), p' σ' H' G' r'⟩
end
end DE
/-! Statements: comprehensions stored, rows of names, errors -/
namespace DE
open PySem PySem.Spec PyProof.Rows L2
section
variable {X : Cx} {mg : MG} {W : WX} {pos : Pos} {e : Expr}
/-- what a stored fresh list asks -/
theorem own_te {K : PySem.W.Frag} {i : Nat} {f : Env → M (List D)} {Dn : Ends} {σ : L2.St} {H : Hp} (h : sD K mg W (fOwn i f) Dn σ H) : tF K mg W f σ H (fun x H1 => gName i x σ H1 Dn.nx) := by
  obtain ⟨J, G0, H0, G, ρ, st, r, h⟩ := h
  refine ⟨J, G, ρ, st, r.now, relF r h fun a vs xs st1 G1 H1 x j ha ga hH rp h1 => ?_⟩
  by_cases hl : i < ρ.length
  · rw [if_pos hl] at h1
    exact h1 _ H1 G1 (r.fresh hl x j ha ga hH rp)
  · rw [if_neg hl] at h1
    exact h1.elim
theorem setF_te {K : PySem.W.Frag} {i : Nat} {f : Env → M (List D)} {Dn : Ends} {σ : L2.St} {H : Hp} (h : sD K mg W (fSet (.nm i) fun ρ => M.bind (f ρ) fun ys => M.pure (.lst ys)) Dn σ H) : tF K mg W f σ H (fun x H1 => gName i x σ H1 Dn.nx) := by
  obtain ⟨J, G0, H0, G, ρ, st, r, h⟩ := h
  have e : fSet (.nm i) (fun ρ => M.bind (f ρ) fun ys => M.pure (.lst ys)) ρ st = bindS (f ρ st) ρ fun xs st' => ofO (assign (.nm i) (.lst xs) ρ) fun ρ' => .nx ρ' st' := by
    unfold fSet
    simp only [M.bind]
    cases f ρ st <;> rfl
  rw [e] at h
  refine ⟨J, G, ρ, st, r.now, relF r h fun a vs xs st1 G1 H1 x j ha ga hH rp h1 => ?_⟩
  obtain ⟨ρ', ea, h2⟩ := ofO_some h1
  simp only [DE.assign] at ea
  split at ea
  · rename_i hl
    cases ea
    have r1 := r.go (x.joined hH r.now.le ha) (j.joined (r.now.j.ne hH) ga)
    exact h2 _ H1 _ (r1.set hl (.lst (.inl upd_same) (rp.mono (Same.upd ga))))
  · cases ea
section
variable {i : Nat} {y : Str} {py : Pos} {elt tg iter : Expr} {ifs : List Expr} {scope : Scope} {own : List (Str × Nat)} {spos : Pos} {t : Tg} {fi : Env → M (List D)} {ft : Env → M Bool} {fe : Env → M D}
theorem ps_lcOwn (hc : X.calm = true) (hN : X.N.Nodup) (hy : X.N[i]? = some y) (hyl : X.env.scope.names.lookup y = some .local)
    (hsw : swapsWith (.ListComp elt [⟨tg, iter, ifs, 0⟩] scope pos) (some (.Name y py)) spos.line X.env = pure true)
    (hi : PI X tg iter (iD X.K mg W fi)) (ok : BlkOk X.N X.env.scope scope own)
    (hg : ∀ (s : Shared) (H : Hp) (C : Addr) (cl : List (Str × Addr)) (fp : List Addr), PG (X.blk s H scope (compEnvC scope cl C X.env) fp) tg (gD X.K mg t))
    (ht : ∀ (s : Shared) (H : Hp) (C : Addr) (cl : List (Str × Addr)) (fp : List Addr), PTs (X.blk s H scope (compEnvC scope cl C X.env) fp) ifs (tDb X.K mg W0 ft))
    (he : ∀ (s : Shared) (H : Hp) (C : Addr) (cl : List (Str × Addr)) (fp : List Addr), PE (X.blk s H scope (compEnvC scope cl C X.env) fp) elt (tD X.K mg W0 fe))
    (hv : ∀ i ∈ tgVars t, i ∈ own.map (·.2)) (hs : ∀ x, foldedSetIterable iter X.env x = pure x) :
    PS X (.Assign [.Name y py] (.ListComp elt [⟨tg, iter, ifs, 0⟩] scope pos) spos) (sD X.K mg W (fOwn i (fComp fi t (own.map (·.2)) ft fe))) :=
  PS.of (ps_setLc hc hN hy hyl hsw hi ok hg ht he hs) fun Dn σ H h => comp_te hv (own_te h)
theorem ps_lcSet (hc : X.calm = true) (hN : X.N.Nodup) (hy : X.N[i]? = some y) (hyl : X.env.scope.names.lookup y = some .local)
    (hsw : swapsWith (.ListComp elt [⟨tg, iter, ifs, 0⟩] scope pos) (some (.Name y py)) spos.line X.env = pure true)
    (hi : PI X tg iter (iD X.K mg W fi)) (ok : BlkOk X.N X.env.scope scope own)
    (hg : ∀ (s : Shared) (H : Hp) (C : Addr) (cl : List (Str × Addr)) (fp : List Addr), PG (X.blk s H scope (compEnvC scope cl C X.env) fp) tg (gD X.K mg t))
    (ht : ∀ (s : Shared) (H : Hp) (C : Addr) (cl : List (Str × Addr)) (fp : List Addr), PTs (X.blk s H scope (compEnvC scope cl C X.env) fp) ifs (tDb X.K mg W0 ft))
    (he : ∀ (s : Shared) (H : Hp) (C : Addr) (cl : List (Str × Addr)) (fp : List Addr), PE (X.blk s H scope (compEnvC scope cl C X.env) fp) elt (tD X.K mg W0 fe))
    (hv : ∀ i ∈ tgVars t, i ∈ own.map (·.2)) (hs : ∀ x, foldedSetIterable iter X.env x = pure x) :
    PS X (.Assign [.Name y py] (.ListComp elt [⟨tg, iter, ifs, 0⟩] scope pos) spos) (sD X.K mg W (fSet (.nm i) fun ρ => M.bind (fComp fi t (own.map (·.2)) ft fe ρ) fun ys => M.pure (.lst ys))) :=
  PS.of (ps_setLc hc hN hy hyl hsw hi ok hg ht he hs) fun Dn σ H h => comp_te hv (setF_te h)
end
/-! ### a, b = x, y -/
def fPar (is : List Nat) (fs : Env → M (List D)) : Env → S → RS := fun ρ st => bindS (fs ρ st) ρ fun ds st' => ofO (setAll is ds ρ) fun ρ' => .nx ρ' st'
theorem ps_par2D {i j : Nat} {x y : Str} {a b : Expr} {fs : Env → M (List D)} {px py pt : Pos} {kt k2 pt2} (hc : X.calm = true) (hN : X.N.Nodup) (hi : X.N[i]? = some x) (hj : X.N[j]? = some y) (hij : i ≠ j)
    (hx : X.env.scope.names.lookup x = some .local) (hy : X.env.scope.names.lookup y = some .local) (ha : PA X [a, b] (tDs X.K mg W fs))
    (hw : swappedStores [.Tuple [.Name x px, .Name y py] kt pt] (.Tuple [a, b] k2 pt2) X.env = pure (some [x, y])) :
    PS X (.Assign [.Tuple [.Name x px, .Name y py] kt pt] (.Tuple [a, b] k2 pt2) pos) (sD X.K mg W (fPar [i, j] fs)) := by
  refine PS.of (ps_par hc hN hi hj hij hx hy ha hw rfl) ?_
  rintro Dn σ H ⟨J, G0, H0, G, ρ, st, r, h⟩
  refine ⟨J, G, ρ, st, r.now, (rel_bind (Rp := Reps X.K mg J) r h).imp ?_⟩
  rintro vs H1 ⟨ds, st1, G1, e1, x1, r1, rd, h1⟩
  obtain ⟨ρ', ea, h2⟩ := ofO_some h1
  cases rd with
  | nil => cases ea
  | cons q1 q2 => cases q2 with
    | nil =>
      simp only [setAll] at ea
      split at ea <;> cases ea
    | cons q2 q3 => cases q3 with
      | nil =>
        simp only [setAll] at ea
        split at ea
        · rename_i l1
          split at ea
          · rename_i l2
            cases ea
            exact ⟨_, _, rfl, h2 _ H1 G1 ((r1.set l1 q1).set l2 q2)⟩
          · cases ea
        · cases ea
      | cons _ _ =>
        simp only [setAll] at ea
        split at ea
        · split at ea <;> cases ea
        · cases ea
theorem ps_par3D {i j l : Nat} {x y z : Str} {a b c : Expr} {fs : Env → M (List D)} {px py pz pt : Pos} {kt k2 pt2} (hc : X.calm = true) (hN : X.N.Nodup) (hi : X.N[i]? = some x) (hj : X.N[j]? = some y) (hl : X.N[l]? = some z) (hij : i ≠ j) (hil : i ≠ l) (hjl : j ≠ l)
    (hx : X.env.scope.names.lookup x = some .local) (hy : X.env.scope.names.lookup y = some .local) (hz : X.env.scope.names.lookup z = some .local) (ha : PA X [a, b, c] (tDs X.K mg W fs))
    (hw : swappedStores [.Tuple [.Name x px, .Name y py, .Name z pz] kt pt] (.Tuple [a, b, c] k2 pt2) X.env = pure (some [x, y, z])) :
    PS X (.Assign [.Tuple [.Name x px, .Name y py, .Name z pz] kt pt] (.Tuple [a, b, c] k2 pt2) pos) (sD X.K mg W (fPar [i, j, l] fs)) := by
  refine PS.of (ps_par3 hc hN hi hj hl hij hil hjl hx hy hz ha hw rfl) ?_
  rintro Dn σ H ⟨J, G0, H0, G, ρ, st, r, h⟩
  refine ⟨J, G, ρ, st, r.now, (rel_bind (Rp := Reps X.K mg J) r h).imp ?_⟩
  rintro vs H1 ⟨ds, st1, G1, e1, x1, r1, rd, h1⟩
  obtain ⟨ρ', ea, h2⟩ := ofO_some h1
  cases rd with
  | nil => cases ea
  | cons q1 q2 => cases q2 with
    | nil =>
      simp only [setAll] at ea
      split at ea <;> cases ea
    | cons q2 q3 => cases q3 with
      | nil =>
        simp only [setAll] at ea
        split at ea
        · split at ea <;> cases ea
        · cases ea
      | cons q3 q4 => cases q4 with
        | nil =>
          simp only [setAll] at ea
          split at ea
          · rename_i l1
            split at ea
            · rename_i l2
              split at ea
              · rename_i l3
                cases ea
                exact ⟨_, _, _, rfl, h2 _ H1 G1 (((r1.set l1 q1).set l2 q2).set l3 q3)⟩
              · cases ea
            · cases ea
          · cases ea
        | cons _ _ =>
          simp only [setAll] at ea
          split at ea
          · split at ea
            · split at ea <;> cases ea
            · cases ea
          · cases ea
/-! ### raise -/
/-- an error of this class can be made: its arguments become its fields -/
structure RaiseOk (X : Cx) (cls : Str) (flds : List Str) : Prop where
  ok : ∃ C : Addr, X.mg cls = some (.ref C) ∧ ∀ (pn : List (Addr × Obj)) (xe : Value → Shared → Prop) (e : Expr) (es : List Expr) (ta : TA) (p pos : Pos), isStar e = false → (es.all fun e => !isStar e) = true → PA (X.tr pn xe) (e :: es) ta → Gl X cls →
    PMk (X.tr pn xe) (.Call (.Name cls p) (e :: es) [] pos) (fun σ H Q => ta σ H fun vs H1 => vs.length = flds.length ∧ ∀ d, H1 d = none → Q (.ref C) (some d) (upd H1 d (.xd (flds.zip vs))))
theorem xFields_rep {K : PySem.W.Frag} {J : Option Addr} {G : Hp} : ∀ {flds : List Str} {ds : List D} {vs : List V} {fs : List (Str × D)}, xFields flds ds = some fs → Reps K mg J G ds vs → vs.length = flds.length ∧ RepF K mg J G fs (flds.zip vs) := by
  intro flds
  induction flds with
  | nil =>
    intro ds vs fs h r
    cases r with
    | nil => simp only [xFields] at h; cases h; exact ⟨rfl, .nil⟩
    | cons _ _ => simp only [xFields] at h; cases h
  | cons f fl ih =>
    intro ds vs fs h r
    cases r with
    | nil => simp only [xFields] at h; cases h
    | @cons d v ds vs a b =>
      simp only [xFields] at h
      cases q : xFields fl ds with
      | none => rw [q] at h; cases h
      | some fs =>
        rw [q] at h
        cases h
        obtain ⟨h1, h2⟩ := ih q b
        exact ⟨congrArg Nat.succ h1, .cons a h2⟩
def fRaise (cls : Str) (flds : List Str) (fs : Env → M (List D)) : Env → S → RS := fun ρ st => bindS (fs ρ st) ρ fun ds st' => ofO (xFields flds ds) fun l => .err ⟨cls, l⟩ ρ st'
theorem ps_raiseD {cls : Str} {flds : List Str} {es : List Expr} {fs : Env → M (List D)} {p p2 : Pos} (hc : X.calm = true) (tk : Takes X W) (R : RaiseOk X cls flds) (hmg : mg = X.mg) (h1 : isStar e = false) (h2 : (es.all fun e => !isStar e) = true) (ha : PA X (e :: es) (tDs X.K mg W fs)) (hg : Gl X cls) :
    PS X (.Raise (some (.Call (.Name cls p) (e :: es) [] p2)) none pos) (sD X.K mg W (fRaise cls flds fs)) := by
  obtain ⟨C, hC, hm⟩ := R.ok
  refine PS.of (ps_raise hc tk (hm X.pn X.xe e es _ p p2 h1 h2 ha hg)) ?_
  rintro Dn σ H ⟨J, G0, H0, G, ρ, st, r, h⟩
  refine ⟨J, G, ρ, st, r.now, (rel_bind (Rp := Reps X.K mg J) r h).imp ?_⟩
  rintro vs H1 ⟨ds, st1, G1, e1, x1, r1, rd, h1⟩
  obtain ⟨l, el, h2⟩ := ofO_some h1
  obtain ⟨hl, hf⟩ := xFields_rep el rd
  refine ⟨hl, fun d hd => ?_⟩
  have hJ := r1.now.j.ne hd
  refine h2 (.ref C) (some d) σ _ G1 (r1.go (Ext.lay r1.now.le hd) (r1.now.j.touch hJ)) ⟨C, d, _, by rw [hmg]; exact hC, rfl, rfl, upd_same, hf⟩
end
end DE
/-! From the program's text to the small language: expressions -/
namespace DE
open PySem PySem.Spec PyProof.Rows L2
/-- a way of calling a def: its name, how many values by place, the keywords, the defaults that fill up -/
abbrev Md := Str × Nat × List Str × List D
structure Tab where
  fns : List (Str × Nat)
  modes : List Md
  csts : List (Str × D)
  bis : List Str
  gcd : Bool
  exs : List (Str × List Str)
  flds : List Str
  cls : List Str
structure Ct where
  N : List Str
  sc : Scope
  fnl : Option (List (Str × NameKind))
  T : Tab
def ixOf (x : Str) : List Str → Option Nat
  | [] => none
  | y :: r => if x = y then some 0 else (ixOf x r).map (· + 1)
theorem ixOf_get {x : Str} : ∀ {N : List Str} {i : Nat}, ixOf x N = some i → N[i]? = some x
  | [], _, h => by simp [ixOf] at h
  | y :: r, i, h => by
    unfold ixOf at h
    split at h
    · rename_i e; cases h; simp [e]
    · cases q : ixOf x r with
      | none => rw [q] at h; cases h
      | some j => rw [q] at h; cases h; simpa using ixOf_get q
def mapO {α β : Type} (f : α → Option β) : List α → Option (List β)
  | [] => some []
  | a :: r => (f a).bind fun b => (mapO f r).bind fun bs => some (b :: bs)
def oneB (b : Bool) : Option Unit := if b then some () else none
def strB (x y : Str) : Bool := decide (x = y)
def okName (x : Str) : Bool := !(x == ("__debug__" : Str)) && !(x == ("__classdict__" : Str))
def isVis (sc : Scope) (x : Str) : Bool := match sc.names.lookup x with
  | some .local => true
  | some .cell => true
  | some .free => true
  | _ => false
def isGl (sc : Scope) (x : Str) : Bool := match sc.names.lookup x with
  | some .globalImplicit => true
  | _ => false
def fnc (c : Ct) (x : Str) : Bool := match c.fnl with
  | none => true
  | some l => l.lookup x == some .cell
def isLoc (c : Ct) (x : Str) : Bool := match c.sc.names.lookup x with
  | some .local => true
  | some .cell => fnc c x
  | _ => false
def cVar (c : Ct) (x : Str) : Option Nat := if okName x && isVis c.sc x then ixOf x c.N else none
def cCst (c : Ct) (x : Str) : Option D := if okName x && isGl c.sc x then c.T.csts.lookup x else none
def cK : Const → Option D
  | .int i => some (.int i)
  | .bool b => some (.bl b)
  | .none => some .non
  | .str x => some (.str x)
  | _ => none
def cBop : Operator → Option BOp
  | .Add => some .add | .Sub => some .sub | .Mult => some .mul | .FloorDiv => some .fdiv | .Mod => some .mod | .Pow => some .pow | .LShift => some .shl
  | _ => none
theorem cBop_ok {o : Operator} {b : BOp} (h : cBop o = some b) : o = bop b := by cases o <;> cases h <;> rfl
def cCop : CmpOp → Option COp
  | .Eq => some .eq | .NotEq => some .ne | .Lt => some .lt | .LtE => some .le | .Gt => some .gt | .GtE => some .ge | .Is => some .isN | .IsNot => some .notN | .In => some .isin | .NotIn => some .notin
theorem cCop_ok {o : CmpOp} {b : COp} (h : cCop o = some b) : o = cop b := by cases o <;> cases h <;> rfl
def cBi : List (Str × BI) := [("repr", .repr), ("str", .str), ("len", .len), ("abs", .abs), ("int", .int), ("bool", .bool), ("tuple", .tuple), ("list", .list), ("sum", .sum), ("all", .all), ("any", .any), ("max", .max), ("min", .min)]
def cTyN : List (Str × String) := [("int", "int"), ("bool", "bool"), ("str", "str"), ("tuple", "tuple"), ("list", "list"), ("dict", "dict")]
/-- a built-in name that nothing hides -/
def cBn (c : Ct) (x : Str) : Bool := okName x && isGl c.sc x && decide (x ∈ c.T.bis)
def cTy1 (c : Ct) : Expr → Option String
  | .Name x _ => if cBn c x then cTyN.lookup x else none
  | _ => none
def cTys (c : Ct) : Expr → Option (List String)
  | .Name x p => (cTy1 c (.Name x p)).map ([·])
  | .Tuple es _ _ => mapO (cTy1 c) es
  | _ => none
def cFold (op : C → C → C) : List C → Option C
  | [] => none
  | [a] => some a
  | a :: b :: r => (cFold op (b :: r)).map (op a)
mutual
def cTg (c : Ct) : Nat → Expr → Option Tg
  | 0, _ => none
  | _ + 1, .Name x _ => if isLoc c x then (ixOf x c.N).map .nm else none
  | n + 1, .Tuple es _ _ => (cTgs c n es).map .tp
  | _ + 1, _ => none
def cTgs (c : Ct) : Nat → List Expr → Option (List Tg)
  | 0, _ => none
  | _ + 1, [] => some []
  | n + 1, e :: es => if isStar e then none else (cTg c n e).bind fun t => (cTgs c n es).bind fun ts => some (t :: ts)
end
def isTup : Expr → Bool
  | .Tuple .. => true
  | _ => false
def isSet : Expr → Bool
  | .Set .. => true
  | _ => false
/-- what a for or a comprehension walks -/
def cIt (c : Ct) (f : Expr → Option C) (tg iter : Expr) : Option (IK × List C) :=
  match iter with
  | .Call (.Name x p) [a] [] q =>
    if cBn c x && strB x "range" then (if isStar a then none else (f a).map fun a' => (.rng, [a']))
    else if cBn c x && strB x "enumerate" then (if isStar a || !isTup tg then none else (f a).map fun a' => (.enum, [a']))
    else (f (.Call (.Name x p) [a] [] q)).map fun a' => (.val, [a'])
  | .Call (.Name x p) [a, b] [] q =>
    if cBn c x && strB x "range" then (if isStar a || isStar b then none else (f a).bind fun a' => (f b).map fun b' => (.rng, [a', b']))
    else if cBn c x && strB x "zip" then (if isStar a || isStar b || !isTup tg then none else (f a).bind fun a' => (f b).map fun b' => (.zip, [a', b']))
    else (f (.Call (.Name x p) [a, b] [] q)).map fun a' => (.val, [a'])
  | e => if isSet e then none else (f e).map fun a' => (.val, [a'])
def ownOf (N : List Str) (scope : Scope) : List (Str × Nat) := scope.names.filterMap fun y => match y.2 with
  | .local => (ixOf y.1 N).map fun i => (y.1, i)
  | .cell => (ixOf y.1 N).map fun i => (y.1, i)
  | _ => none
def cOpt (f : Expr → Option C) : Option Expr → Option (Option C)
  | none => some none
  | some e => (f e).map some
def noStars (es : List Expr) : Bool := es.all fun e => !isStar e
def inner (c : Ct) (scope : Scope) : Ct := { c with sc := relS scope c.sc, fnl := some scope.names, T := { c.T with exs := [] } }
def modeC (c : Ct) (x : Str) (n : Nat) (ks : List Str) : Option Md := c.T.modes.find? fun m => decide (m.1 = x) && (decide (m.2.1 = n) && decide (m.2.2.1 = ks))
def kwNames : List Keyword → Option (List Str)
  | [] => some []
  | ⟨some x, _, _⟩ :: r => (kwNames r).map (x :: ·)
  | _ => none
def kwVals : List Keyword → List Expr
  | [] => []
  | ⟨_, e, _⟩ :: r => e :: kwVals r
def cMode (c : Ct) (x : Str) (es zs : List C) (ks : List Str) : Option C :=
  if !(okName x && isGl c.sc x) then none else (modeC c x es.length ks).map fun m => .call x (es ++ (zs ++ m.2.2.2.map .cst))
def cCall (c : Ct) (x : Str) (es : List C) : Option C :=
  if !(okName x && isGl c.sc x) then none else
  match c.T.fns.lookup x with
  | some n => if es.length = n then some (.call x es) else none
  | none => if c.T.gcd && strB x "gcd" then some (.bi .gcd es) else if decide (x ∈ c.T.bis) then (cBi.lookup x).map fun b => .bi b es else none
def cE (c : Ct) : Nat → Expr → Option C
  | 0, _ => none
  | n + 1, e => match e with
    | .Constant k _ _ => (cK k).map .cst
    | .Name x _ => match cVar c x with
      | some i => some (.var i)
      | none => (cCst c x).map .cst
    | .BinOp a o b _ => (cBop o).bind fun o' => (cE c n a).bind fun a' => (cE c n b).bind fun b' => some (.bin o' a' b')
    | .UnaryOp .USub a _ => (cE c n a).map .neg
    | .UnaryOp .Not a _ => (cE c n a).map .not
    | .BoolOp .And [a] _ => cE c n a
    | .BoolOp .Or [a] _ => cE c n a
    | .BoolOp .And (a :: b :: r) p => (cE c n a).bind fun a' => (cE c n (.BoolOp .And (b :: r) p)).bind fun b' => some (.and a' b')
    | .BoolOp .Or (a :: b :: r) p => (cE c n a).bind fun a' => (cE c n (.BoolOp .Or (b :: r) p)).bind fun b' => some (.or a' b')
    | .Compare a [o] [b] _ => if behindInMarks o b then none else (cCop o).bind fun o' => (cE c n a).bind fun a' => (cE c n b).bind fun b' => some (.cmp o' a' b')
    | .Compare a [o, p] [b, d] _ => if lastMarks [o, p] [b, d] then none else (cCop o).bind fun o' => (cCop p).bind fun p' => (cE c n a).bind fun a' => (cE c n b).bind fun b' => (cE c n d).bind fun d' => some (.chain o' p' a' b' d')
    | .IfExp t a b _ => (cE c n t).bind fun t' => (cE c n a).bind fun a' => (cE c n b).bind fun b' => some (.ite t' a' b')
    | .Tuple es _ _ => if noStars es && decide (es.length ≤ 1000000) then (mapO (cE c n) es).map .tup else none
    | .List es _ => if noStars es && decide (es.length ≤ 1000000) then (mapO (cE c n) es).map .lst else none
    | .Subscript a (.Slice lo hi none _) _ => (cE c n a).bind fun a' => (cOpt (cE c n) lo).bind fun l => (cOpt (cE c n) hi).bind fun h => some (.slc a' l h)
    | .Subscript a i _ => if isSlice i || isTup i then none else (cE c n a).bind fun a' => (cE c n i).bind fun i' => some (.idx a' i')
    | .Call (.Name x _) [a, t] [] _ => if strB x "isinstance" && cBn c x then (if isStar a || isStar t then none else (cE c n a).bind fun a' => (cTys c t).bind fun ts => if decide (ts.length ≤ 1000000) && (ts.all fun t => tyKnown.contains t) then some (.isi a' (ts.map .bt)) else none)
      else if isStar a || isStar t then none else (mapO (cE c n) [a, t]).bind fun es' => match cCall c x es' with
      | some e' => some e'
      | none => cMode c x es' [] []
    | .Call (.Name x _) (a :: es) [] _ => if noStars (a :: es) then (mapO (cE c n) (a :: es)).bind fun es' => match cCall c x es' with
      | some e' => some e'
      | none => cMode c x es' [] [] else none
    | .Call (.Name x _) es kws _ => if noStars es then (kwNames kws).bind fun ks => (mapO (cE c n) es).bind fun es' => (mapO (cE c n) (kwVals kws)).bind fun zs => cMode c x es' zs ks else none
    | .Dict [some (.Constant (.int _) _ _)] [.Constant v _ _] _ => (cK v).map fun _ => .cst .dic
    | .Dict [some (.Constant (.int _) _ _), some (.Constant (.int _) _ _)] [.Constant v _ _, .Constant u _ _] _ => (cK v).bind fun _ => (cK u).map fun _ => .cst .dic
    | .ListComp elt [⟨tg, iter, ifs, 0⟩] scope _ =>
      if !blkC c.N c.sc scope (ownOf c.N scope) then none else
      (cIt c (cE c n) tg iter).bind fun it => (cTg (inner c scope) n tg).bind fun t =>
      if !((tgVars t).all fun i => decide (i ∈ (ownOf c.N scope).map (·.2))) then none else
      if decide (1 < ifs.length) then none else
      (mapO (cE (inner c scope) n) ifs).bind fun ifs' => (cE (inner c scope) n elt).bind fun elt' => some (.comp elt' t it.1 it.2 ifs' ((ownOf c.N scope).map (·.2)))
    | _ => none
end DE
/-! .. and it means the same: expressions -/
namespace DE
open PySem PySem.Spec PyProof.Rows L2
/-- a way of calling is kept -/
structure MdOk (X : Cx) (mg : MG) (m : Md) (F : List D → M D) : Prop where
  ok : ∃ (k : Nat) (f : Addr) (fd : FuncData) (ps : List Str) (its : List Value) (dvs : List V), FnG X.prog X.w X.K X.mg X.base (L2.CX X.prog X.w) k f fd ps (spD X.K mg ps.length F) ∧ RoomG k X.A ∧ X.mg m.1 = some (.ref f) ∧ PySem.W.keepIn X.K (.ref f) = true ∧
    Vals dvs its ∧ (∀ J G, Reps X.K mg J G m.2.2.2 dvs) ∧ m.2.1 + (m.2.2.1.length + m.2.2.2.length) = ps.length ∧
    ∀ (s : Shared) (us ws : List Value), X.K.In s.heap → us.length = m.2.1 → ws.length = m.2.2.1.length → BindsTo s fd ⟨us, m.2.2.1.zip ws⟩ (ps.zip (us ++ (ws ++ its)))
structure OkX (X : Cx) (mg : MG) (W : WX) (c : Ct) (Γ : Gam) : Prop where
  N : X.N = c.N
  nd : X.N.Nodup
  sc : X.env.scope = c.sc
  calm : X.calm = true
  hu : X.A.units + 64 < cLine
  gd : X.A.guards = some []
  hmg : mg = X.mg
  tk : Takes X W
  fnl : ∀ x, fnc c x = true → X.fn x = true
  fns : ∀ x n, c.T.fns.lookup x = some n → FnD X mg x n (Γ.fn x)
  modes : ∀ m, m ∈ c.T.modes → MdOk X mg m (Γ.fn m.1)
  csts : ∀ x d, c.T.csts.lookup x = some d → ∃ (v : V) (u : Value), X.mg x = some u ∧ RelV v u ∧ ∀ J G, Rep X.K mg J G d v
  bis : ∀ x, x ∈ c.T.bis → X.mg x = none
  gcd : c.T.gcd = true → X.mg "gcd" = some (.builtin "math.gcd")
  exs : ∀ x fl, c.T.exs.lookup x = some fl → Γ.ex x = some fl ∧ RaiseOk X x fl
theorem bnd {α β : Type} {o : Option α} {k : α → Option β} {b : β} (h : o.bind k = some b) : ∃ a, o = some a ∧ k a = some b := Option.bind_eq_some_iff.mp h
theorem mpd {α β : Type} {o : Option α} {k : α → β} {b : β} (h : o.map k = some b) : ∃ a, o = some a ∧ k a = b := by
  cases o with
  | none => cases h
  | some a => exact ⟨a, rfl, Option.some.inj h⟩
theorem ifn {α : Type} {b : Bool} {o : Option α} {a : α} (h : (if b = true then none else o) = some a) : b = false ∧ o = some a := by
  cases b with
  | true => cases h
  | false => exact ⟨rfl, h⟩
theorem ify {α : Type} {b : Bool} {o : Option α} {a : α} (h : (if b = true then o else none) = some a) : b = true ∧ o = some a := by
  cases b with
  | false => cases h
  | true => exact ⟨rfl, h⟩
theorem okName_ok {x : Str} (h : okName x = true) : (x == ("__debug__" : Str)) = false ∧ (x == ("__classdict__" : Str)) = false := by
  unfold okName at h
  simpa using h
section
variable {X : Cx} {mg : MG} {W : WX} {c : Ct} {Γ : Gam}
theorem OkX.vis (k : OkX X mg W c Γ) {x : Str} (h : isVis c.sc x = true) : Vis X.env.scope x := by
  rw [k.sc]
  unfold isVis at h
  unfold Vis
  split at h
  · exact .inl (by assumption)
  · exact .inr (.inl (by assumption))
  · exact .inr (.inr (by assumption))
  · cases h
theorem OkX.gl (k : OkX X mg W c Γ) {x : Str} (h : isGl c.sc x = true) : Gl X x := by
  unfold isGl at h
  show X.env.scope.names.lookup x = _
  rw [k.sc]
  split at h
  · assumption
  · cases h
theorem OkX.loc (k : OkX X mg W c Γ) {x : Str} (h : isLoc c x = true) : L2.Loc X.env.scope x ∧ (X.fn x = true ∨ X.env.scope.names.lookup x = some .local) := by
  unfold isLoc at h
  rw [k.sc]
  unfold L2.Loc
  split at h
  · exact ⟨.inl (by assumption), .inr (by assumption)⟩
  · exact ⟨.inr (by assumption), .inl (k.fnl _ h)⟩
  · cases h
theorem OkX.at_ (k : OkX X mg W c Γ) {x : Str} {i : Nat} (h : ixOf x c.N = some i) : X.N[i]? = some x := by rw [k.N]; exact ixOf_get h
theorem OkX.inner (k : OkX X mg W c Γ) {s : Shared} {H : Hp} {C : Addr} {cl : List (Str × Addr)} {fp : List Addr} {scope : Scope} : OkX (X.blk s H scope (compEnvC scope cl C X.env) fp) mg W0 (DE.inner c scope) Γ where
  N := k.N
  nd := k.nd
  sc := by
    show relS scope X.env.scope = relS scope c.sc
    rw [k.sc]
  calm := k.calm
  hu := k.hu
  gd := k.gd
  hmg := k.hmg
  tk := takes0
  fnl := fun x h => h
  fns := fun x n h => ⟨(k.fns x n h).ok⟩
  modes := fun m h => ⟨(k.modes m h).ok⟩
  csts := k.csts
  bis := k.bis
  gcd := k.gcd
  exs := fun x fl h => by cases h
theorem ge_nm (k : OkX X mg W c Γ) : ∀ n : Nat, (∀ e t, cTg c n e = some t → PG X e (gD X.K mg t)) ∧ (∀ es ts, cTgs c n es = some ts → PGs X es (gsD X.K mg ts) ∧ (assignEach es X.env).length = ts.length ∧ (assignEach es X.env).findIdx? (·.1) = none) := by
  intro n
  induction n with
  | zero => exact ⟨fun e t h => by simp [cTg] at h, fun e t h => by simp [cTgs] at h⟩
  | succ n ih =>
    refine ⟨fun e t h => ?_, fun es ts h => ?_⟩
    · cases e with
      | Name x p =>
        simp only [cTg] at h
        obtain ⟨h1, h⟩ := ify h
        obtain ⟨i, e1, rfl⟩ := mpd h
        obtain ⟨l1, l2⟩ := k.loc h1
        exact pg_nmD k.nd (k.at_ e1) l1 l2
      | Tuple es kk p =>
        simp only [cTg] at h
        obtain ⟨ts, e1, rfl⟩ := mpd h
        obtain ⟨g1, g2, g3⟩ := ih.2 _ _ e1
        exact pg_tpD k.calm g1 g2 g3
      | _ => exact absurd h (by simp [cTg])
    · cases es with
      | nil => simp only [cTgs] at h; cases h; exact ⟨pgs_nilD, rfl, rfl⟩
      | cons e es =>
        simp only [cTgs] at h
        obtain ⟨h1, h⟩ := ifn h
        obtain ⟨t, e1, h⟩ := bnd h
        obtain ⟨ts', e2, h⟩ := bnd h
        cases h
        obtain ⟨g1, g2, g3⟩ := ih.2 _ _ e2
        have ea : assignEach (e :: es) X.env = (false, PySem.assign e X.env) :: assignEach es X.env := by cases e <;> first | rfl | cases h1
        refine ⟨pgs_consD (ih.1 _ _ e1) g1 (by rw [ea]; rfl), by rw [ea]; simp [g2], ?_⟩
        rw [ea, List.findIdx?_cons]
        simp [g3]
theorem PT.eqF {e : Expr} {f g : Env → M Bool} (h : PT X e (tDb X.K mg W f)) (q : g = f) : PT X e (tDb X.K mg W g) := q ▸ h
theorem PE.eqF {e : Expr} {f g : Env → M D} (h : PE X e (tD X.K mg W f)) (q : g = f) : PE X e (tD X.K mg W g) := q ▸ h
theorem pe_one' {e : Expr} {f : Env → M D} {o : PySem.BoolOp} {p : Pos} (h : PE X e (tD X.K mg W f)) : PE X (.BoolOp o [e] p) (tD X.K mg W f) := pe_one h
theorem pt_iteD {a b t : Expr} {ft fa fb : Env → M D} {pos : Pos} (hc : PT X t (tT X.K mg W ft)) (ha : PT X a (tT X.K mg W fa)) (hb : PT X b (tT X.K mg W fb)) : PT X (.IfExp t a b pos) (tT X.K mg W (fIte ft fa fb)) := by
  refine ⟨fun pins s σ H Q I h => ?_⟩
  obtain ⟨J, G, ρ, st, w, h⟩ := h
  have h2 : Post X.K mg J G H σ W (fun _ (a b : Bool) => a = b) Q (M.bind (tst ft ρ) (fun k => match k with | true => tst fa ρ | false => tst fb ρ) st) := by
    simp only [tst, fIte, M.bind_assoc] at h ⊢
    refine post_map h fun d st1 _ h => ?_
    refine post_map h fun kk st2 _ h => ?_
    cases kk <;> exact h
  refine isTrue_IfExp (thn (hc.run pins s σ H _ I ⟨J, G, ρ, st, w, post_bindB h2⟩) fun kk s1 ⟨H1, I1, q1⟩ => ?_)
  obtain ⟨kk', st1, G1, _, x1, j1, rfl, h3⟩ := q1
  cases kk' with
  | true => exact ha.run pins s1 σ H1 Q I1 ⟨J, G1, ρ, st1, w.go x1 j1, h3⟩
  | false => exact hb.run pins s1 σ H1 Q I1 ⟨J, G1, ρ, st1, w.go x1 j1, h3⟩
end
/-! ### keywords, defaults -/
section
variable {X : Cx} {mg : MG} {W : WX}
theorem PK.of {e : List Keyword} {t t' : TA} (h : PK X e t) (k : ∀ σ H Q, t' σ H Q → t σ H Q) : PK X e t' := ⟨fun pos pins s σ H Q I q => h.run pos pins s σ H Q I (k _ _ _ q)⟩
theorem pk_nilD : PK X [] (tDs X.K mg W fun _ => M.pure []) := by
  refine PK.of pk_nil ?_
  rintro σ H Q ⟨J, G, ρ, st, w, h⟩
  exact post_pure h w.j [] G H (Ext.refl w.le) same_refl .nil
theorem pk_consD {nm : Option Str} {kpos : Pos} {e : Expr} {kws : List Keyword} {fe : Env → M D} {fs : Env → M (List D)} (he : PE X e (tD X.K mg W fe)) (hs : PK X kws (tDs X.K mg W fs)) : PK X (⟨nm, e, kpos⟩ :: kws) (tDs X.K mg W (fCons fe fs)) := by
  refine PK.of (pk_cons he hs) ?_
  rintro σ H Q ⟨J, G, ρ, st, w, h⟩
  refine ⟨J, G, ρ, st, w, (post_bindD h).imp ?_⟩
  rintro x H1 ⟨d1, st1, G1, _, x1, j1, r1, h1⟩
  refine ⟨J, G1, ρ, st1, w.go x1 j1, (post_bindDs h1).imp ?_⟩
  rintro xs H2 ⟨ds, st2, G2, _, x2, j2, r2, h2⟩
  exact post_pure h2 j2 _ G2 H2 (Ext.refl x2.le) same_refl (.cons (r1.mono x2.gg) r2)
theorem kw_all {pos : Pos} {env : PySem.Env} : ∀ {kws : List Keyword} {ks : List Str}, kwNames kws = some ks → (backToKw pos (keywordEach kws env)).all (·.1.isSome) = true ∧ (backToKw pos (keywordEach kws env)).filterMap (·.1) = ks ∧ (backToKw pos (keywordEach kws env)).any (·.1.isNone) = false
  | [], _, h => by cases h; exact ⟨rfl, rfl, rfl⟩
  | ⟨none, _, _⟩ :: _, _, h => by cases h
  | ⟨some x, e, p⟩ :: r, _, h => by
    simp only [kwNames] at h
    obtain ⟨ks, e1, rfl⟩ := mpd h
    obtain ⟨h1, h2, h3⟩ := kw_all (pos := pos) (env := env) e1
    refine ⟨?_, ?_, ?_⟩
    · show (true && (backToKw pos (keywordEach r env)).all (·.1.isSome)) = true
      rw [h1]; rfl
    · show x :: (backToKw pos (keywordEach r env)).filterMap (·.1) = x :: ks
      rw [h2]
    · show (false || (backToKw pos (keywordEach r env)).any (·.1.isNone)) = false
      rw [h3]; rfl
theorem pe_modeD {m : Md} {F : List D → M D} {x : Str} {p pos : Pos} {es : List Expr} {kws : List Keyword} {fs fz : Env → M (List D)} (tk : Takes X W) (Mo : MdOk X mg m F) (hx : m.1 = x) (hg : Gl X x) (hk : kwNames kws = some m.2.2.1) (hs : PA X es (tDs X.K mg W fs)) (hz : PK X kws (tDs X.K mg W fz))
    (hn : ∀ ρ st ds st1, fs ρ st = .ok ds st1 → ds.length = m.2.1) (hm : ∀ ρ st ds st1, fz ρ st = .ok ds st1 → ds.length = m.2.2.1.length) (hdb : (x == ("__debug__" : Str)) = false) (h2 : (es.all fun e => !isStar e) = true) (h0 : es = [] → fs = fun _ => M.pure []) :
    PE X (.Call (.Name x p) es kws pos) (tD X.K mg W fun ρ => M.bind (fs ρ) fun ds => M.bind (fz ρ) fun zs => F (ds ++ (zs ++ m.2.2.2))) := by
  obtain ⟨k, f, fd, ps, its, dvs, F0, hr, hmg, hkp, hv, hd, hl, hb⟩ := Mo.ok
  subst hx
  have run : ∀ {pins : List (Addr × Obj)} {σ : L2.St} {H : Hp} {s : Shared} {Q : VK} {us ws : List Value} {vs zs : List V}, Inv X pins σ H s → Vals vs us → Vals zs ws → vs.length = m.2.1 → zs.length = m.2.2.1.length → spD X.K mg ps.length F (vs ++ (zs ++ dvs)) H Q (fun cls d H => W cls d σ H) →
      wpAny (model X.prog X.w) X.A (call (.ref f) us (m.2.2.1.zip ws)) (EP X pins σ Q) X.xe s := by
    intro pins σ H s Q us ws vs zs I r1 r2 l1 l2 h
    have r3 : Vals (vs ++ (zs ++ dvs)) (us ++ (ws ++ its)) := r1.append (r2.append hv)
    exact goG F0 hr (passAt tk σ) I (hb s us ws I.kIn (r1.length.symm.trans l1) (r2.length.symm.trans l2)) r3 h
  refine ⟨fun pins s σ H Q I h => ?_⟩
  obtain ⟨J, G, ρ, st, w, h⟩ := h
  refine wpAny_Call_Name_kw (ld_glob I hg hmg ?_ hdb)
  obtain ⟨k1, k2, k3⟩ := kw_all (pos := pos) (env := X.env) hk
  -- behind the values by place
  have behind : ∀ {us : List Value} {s1 : Shared}, AP X pins σ (fun b H1 => ∃ (a : List D) (st1 : S) (G1 : Hp), fs ρ st = .ok a st1 ∧ Ext J G H G1 H1 ∧ JOk X.K mg J G1 H1 st1 ∧ Reps X.K mg J G1 a b ∧ Post X.K mg J G1 H1 σ W (Rep X.K mg J) Q ((M.bind (fz ρ) fun zs => F (a ++ (zs ++ m.2.2.2))) st1)) us s1 →
      wpAny (model X.prog X.w) X.A (evalAll ((backToKw pos (keywordEach kws X.env)).map (·.2))) (fun ws s2 => X.K.In s2.heap ∧ wpAny (model X.prog X.w) X.A (call (.ref f) us (((backToKw pos (keywordEach kws X.env)).filterMap (·.1)).zip ws)) (EP X pins σ Q) X.xe s2) X.xe s1 := by
    rintro us s1 ⟨vs, H1, I1, r1, a, st1, G1, e1, x1, j1, rp, h1⟩
    refine thn (hz.run pos pins s1 σ H1 _ I1 ⟨J, G1, ρ, st1, w.go x1 j1, post_bindDs h1⟩) fun ws s2 ⟨zs, H2, I2, r2, b, st2, G2, e2, x2, j2, rq, h2⟩ => ⟨I2.kIn, ?_⟩
    rw [k2]
    refine run I2 r1 r2 (by rw [← rp.length]; exact hn _ _ _ _ e1) (by rw [← rq.length]; exact hm _ _ _ _ e2) ⟨J, G2, a ++ (b ++ m.2.2.2), st2, x2.le, j2, (rp.mono x2.gg).append (rq.append (hd J G2)), ?_, Post.wish h2 fun _ _ _ z => z⟩
    rw [List.length_append, List.length_append, hn _ _ _ _ e1, hm _ _ _ _ e2, hl]
  cases es with
  | nil =>
    refine PySem.W.callWith_KW0 (h₀ := X.base) I.ok.mod.kin hkp k1 ?_ (by rw [k3]; rfl)
    have e0 := h0 rfl
    subst e0
    exact behind (us := []) ⟨[], H, I, .nil, [], st, G, rfl, Ext.refl w.le, w.j, .nil, h⟩
  | cons e r =>
    have hh : ((!isStar e) && r.all fun e => !isStar e) = true := h2
    rw [Bool.and_eq_true] at hh
    have he : isStar e = false := by simpa using hh.1
    refine PySem.W.callWith_KW (h₀ := X.base) I.ok.mod.kin hkp k1 (thn (hs.run pos pins s σ H _ I ⟨J, G, ρ, st, w, post_bindDs h⟩) fun us s1 q => ?_) (by rw [star_any h2, k3]; rfl) (star1 he)
    exact behind q
end
end DE
/-! .. the theorem for expressions -/
namespace DE
open PySem PySem.Spec PyProof.Rows L2
/-- both readings -/
def PB (X : Cx) (mg : MG) (W : WX) (e : Expr) (f : Env → M D) : Prop := PE X e (tD X.K mg W f) ∧ PT X e (tT X.K mg W f)
section
variable {X : Cx} {mg : MG} {W : WX} {c : Ct} {Γ : Gam}
theorem PB.of {e : Expr} {f g : Env → M D} (h : PB X mg W e f) (q : g = f) : PB X mg W e g := q ▸ h
theorem PB.v {e : Expr} {f : Env → M D} (h : PE X e (tD X.K mg W f)) (he : ∀ whole, isTrue e X.env whole = (do let v ← whole; standAt e.pos; holding [v] (truthy v)) := by intro _; rfl) : PB X mg W e f := ⟨h, pt_truthD h he⟩
/-- a row of arguments -/
theorem sound_args {f : Expr → Option C} (hf : ∀ e e', f e = some e' → PB X mg W e (ev Γ e')) : ∀ {es : List Expr} {es' : List C}, noStars es = true → mapO f es = some es' → PA X es (tDs X.K mg W (evs Γ es')) ∧ es'.length = es.length := by
  intro es
  induction es with
  | nil => intro es' _ h; cases h; exact ⟨by
      have e : evs Γ [] = fun _ => M.pure [] := by funext ρ; simp only [evs]
      rw [e]; exact pa_nilD, rfl⟩
  | cons a r ih =>
    intro es' hs h
    unfold noStars at hs
    rw [List.all_cons, Bool.and_eq_true] at hs
    simp only [mapO] at h
    obtain ⟨b, e1, h⟩ := bnd h
    obtain ⟨bs, e2, h⟩ := bnd h
    cases h
    obtain ⟨h1, h2⟩ := ih hs.2 e2
    refine ⟨?_, by simp [h2]⟩
    have e : evs Γ (b :: bs) = fCons (ev Γ b) (evs Γ bs) := by funext ρ; simp only [evs]; rfl
    rw [e]
    exact pa_consD (by simpa using hs.1) (hf a b e1).1 h1
theorem evs_len : ∀ {es : List C} {ρ : Env} {st st1 : S} {ds : List D}, evs Γ es ρ st = .ok ds st1 → ds.length = es.length := by
  intro es
  induction es with
  | nil => intro ρ st st1 ds h; simp only [evs] at h; cases h; rfl
  | cons a r ih =>
    intro ρ st st1 ds h
    simp only [evs, M.bind] at h
    cases q : ev Γ a ρ st with
    | ok d s1 =>
      rw [q] at h
      simp only [Res.bind, M.bind] at h
      cases q2 : evs Γ r ρ s1 with
      | ok ds2 s2 =>
        rw [q2] at h
        cases h
        simp [ih q2]
      | err _ _ => rw [q2] at h; cases h
      | stuck => rw [q2] at h; cases h
    | err _ _ => rw [q] at h; cases h
    | stuck => rw [q] at h; cases h
theorem sound_opt {f : Expr → Option C} (hf : ∀ e e', f e = some e' → PB X mg W e (ev Γ e')) {o : Option Expr} {o' : Option C} (h : cOpt f o = some o') : POk X mg W o (o'.map (ev Γ)) := by
  cases o with
  | none => cases h; exact True.intro
  | some e =>
    obtain ⟨a, e1, rfl⟩ := mpd h
    exact (hf e a e1).1
theorem fOpt_ev {o : Option C} : fOpt (o.map (ev Γ)) = evo Γ o := by
  cases o with
  | none => funext ρ; simp only [evo, Option.map, fOpt]
  | some a => funext ρ; simp only [evo, Option.map, fOpt]
theorem cBn_ok (k : OkX X mg W c Γ) {x : Str} (h : cBn c x = true) : Gl X x ∧ X.mg x = none ∧ (x == ("__debug__" : Str)) = false := by
  unfold cBn at h
  simp only [Bool.and_eq_true, decide_eq_true_eq] at h
  exact ⟨k.gl h.1.2, k.bis x h.2, (okName_ok h.1.1).1⟩
theorem strB_ok {x y : Str} (h : strB x y = true) : x = y := of_decide_eq_true h
theorem isTy_look : ∀ {x : Str} {n : String}, cTyN.lookup x = some n → bootBuiltins x = some (.type n) ∧ x ≠ "__name__" := by
  intro x n h
  have key : (cTyN.all fun p => decide (bootBuiltins p.1 = some (.type p.2)) && decide (p.1 ≠ "__name__")) = true := by decide +kernel
  have := List.all_eq_true.mp key (x, n) (PySem.mem_of_lookup h)
  simpa only [Bool.and_eq_true, decide_eq_true_eq] using this
theorem sound_ty1 (k : OkX X mg W c Γ) {e : Expr} {n : String} (h : cTy1 c e = some n) : isStar e = false ∧ PE X e (tC (.ty n)) := by
  cases e with
  | Name x p =>
    simp only [cTy1] at h
    obtain ⟨h1, h⟩ := ify h
    obtain ⟨g1, g2, g3⟩ := cBn_ok k h1
    obtain ⟨b1, b2⟩ := isTy_look h
    exact ⟨rfl, ⟨fun pins s σ H Q I q => ld_blt I g1 g2 b1 ⟨.ty n, H, I, rfl, q⟩ b2 g3⟩⟩
  | _ => exact absurd h (by simp [cTy1])
theorem sound_tys (k : OkX X mg W c Γ) : ∀ {es : List Expr} {ns : List String}, mapO (cTy1 c) es = some ns → TyNames X es ns := by
  intro es
  induction es with
  | nil => intro ns h; cases h; exact .nil
  | cons a r ih =>
    intro ns h
    simp only [mapO] at h
    obtain ⟨b, e1, h⟩ := bnd h
    obtain ⟨bs, e2, h⟩ := bnd h
    cases h
    obtain ⟨h1, h2⟩ := sound_ty1 k e1
    exact .cons h1 h2 (ih e2)
theorem tyAll_map : ∀ {ns : List String}, (ns.all fun t => tyKnown.contains t) = true → tyAll (ns.map .bt) = some ns := by
  intro ns
  induction ns with
  | nil => intro _; rfl
  | cons a r ih =>
    intro h
    rw [List.all_cons, Bool.and_eq_true] at h
    simp only [List.map, tyAll, h.1, if_true, ih h.2]
    rfl
theorem biV_bif {x : Str} {b : BI} (h : cBi.lookup x = some b) : bootBuiltins x = some (biV b) ∧ x ≠ "__name__" := by
  have key : (cBi.all fun p => decide (bootBuiltins p.1 = some (biV p.2)) && decide (p.1 ≠ "__name__")) = true := by decide +kernel
  have := List.all_eq_true.mp key (x, b) (PySem.mem_of_lookup h)
  simpa only [Bool.and_eq_true, decide_eq_true_eq] using this
theorem sound_call (k : OkX X mg W c Γ) {x : Str} {a : Expr} {es : List Expr} {es' : List C} {e' : C} {p pos : Pos} (hs : noStars (a :: es) = true) (ha : PA X (a :: es) (tDs X.K mg W (evs Γ es'))) (hl : es'.length = (a :: es).length) (h : cCall c x es' = some e') :
    PE X (.Call (.Name x p) (a :: es) [] pos) (tD X.K mg W (ev Γ e')) := by
  unfold noStars at hs
  rw [List.all_cons, Bool.and_eq_true] at hs
  have s1 : isStar a = false := by simpa using hs.1
  unfold cCall at h
  obtain ⟨h1, h⟩ := ifn h
  rw [Bool.not_eq_false', Bool.and_eq_true] at h1
  have gl := k.gl h1.2
  have hd := (okName_ok h1.1).1
  split at h
  · rename_i n hn
    split at h
    · rename_i hln
      cases h
      have q : ev Γ (.call x es') = fun ρ => M.bind (evs Γ es' ρ) fun ds => Γ.fn x ds := by funext ρ; simp only [ev]
      rw [q]
      exact pe_callD k.tk (k.fns x n hn) gl ha (fun ρ st ds st1 e => (evs_len e).trans hln) hd s1 hs.2
    · cases h
  · split at h
    · rename_i hg
      cases h
      rw [Bool.and_eq_true] at hg
      have ex := strB_ok hg.2
      subst ex
      have q : ev Γ (.bi .gcd es') = fun ρ => M.bind (evs Γ es' ρ) fun ds => lift (biD .gcd ds) := by funext ρ; simp only [ev]
      rw [q]
      exact pe_fnD (id := "math.gcd") (call_D k.gd k.hu k.calm .gcd) gl (k.gcd hg.1) ha hd s1 hs.2
    · obtain ⟨h2, h⟩ : x ∈ c.T.bis ∧ (cBi.lookup x).map (fun b => C.bi b es') = some e' := by
        split at h
        · rename_i z; exact ⟨of_decide_eq_true z, h⟩
        · cases h
      obtain ⟨b, eb, rfl⟩ := mpd h
      obtain ⟨b1, b2⟩ := biV_bif eb
      have q : ev Γ (.bi b es') = fun ρ => M.bind (evs Γ es' ρ) fun ds => lift (biD b ds) := by funext ρ; simp only [ev]
      rw [q]
      have hm := k.bis x h2
      have cd := call_D (X := X) (mg := mg) k.gd k.hu k.calm b
      cases b <;> first
        | exact pe_biD cd gl hm b1 ha b2 hd s1 hs.2
        | exact pe_tyD cd gl hm b1 ha b2 hd s1 hs.2
theorem evs_app {a b : List C} : evs Γ (a ++ b) = fun ρ => M.bind (evs Γ a ρ) fun x => M.bind (evs Γ b ρ) fun y => M.pure (x ++ y) := by
  induction a with
  | nil =>
    funext ρ
    simp only [List.nil_append, evs, M.pure_bind]
    funext st
    simp only [M.bind]
    cases evs Γ b ρ st <;> rfl
  | cons e r ih =>
    funext ρ
    have ih' := congrFun ih ρ
    simp only [List.cons_append, evs, ih', M.bind_assoc, M.pure_bind]
theorem evs_cst {ds : List D} : evs Γ (ds.map .cst) = fun _ => M.pure ds := by
  induction ds with
  | nil => funext ρ; simp only [List.map, evs]
  | cons d r ih =>
    funext ρ
    have ih' := congrFun ih ρ
    simp only [List.map, evs, ev, ih', M.pure_bind]
theorem sound_kws {f : Expr → Option C} (hf : ∀ e e', f e = some e' → PB X mg W e (ev Γ e')) : ∀ {kws : List Keyword} {zs : List C}, mapO f (kwVals kws) = some zs → PK X kws (tDs X.K mg W (evs Γ zs)) ∧ zs.length = kws.length := by
  intro kws
  induction kws with
  | nil =>
    intro zs h
    cases h
    have e : evs Γ [] = fun _ => M.pure [] := by funext ρ; simp only [evs]
    rw [e]
    exact ⟨pk_nilD, rfl⟩
  | cons k r ih =>
    intro zs h
    obtain ⟨nm, e, p⟩ := k
    simp only [kwVals, mapO] at h
    obtain ⟨b, e1, h⟩ := bnd h
    obtain ⟨bs, e2, h⟩ := bnd h
    cases h
    obtain ⟨h1, h2⟩ := ih e2
    have z : evs Γ (b :: bs) = fCons (ev Γ b) (evs Γ bs) := by funext ρ; simp only [evs]; rfl
    rw [z]
    exact ⟨pk_consD (hf e b e1).1 h1, by simp [h2]⟩
theorem kwNames_len : ∀ {kws : List Keyword} {ks : List Str}, kwNames kws = some ks → ks.length = kws.length
  | [], _, h => by cases h; rfl
  | ⟨none, _, _⟩ :: _, _, h => by cases h
  | ⟨some x, e, p⟩ :: r, _, h => by
    simp only [kwNames] at h
    obtain ⟨ks, e1, rfl⟩ := mpd h
    simp [kwNames_len e1]
theorem sound_mode (k : OkX X mg W c Γ) {x : Str} {es : List Expr} {kws : List Keyword} {es' zs : List C} {ks : List Str} {e' : C} {p pos : Pos} (hs : noStars es = true) (ha : PA X es (tDs X.K mg W (evs Γ es'))) (hl : es'.length = es.length) (hk : kwNames kws = some ks) (hz : PK X kws (tDs X.K mg W (evs Γ zs))) (hlz : zs.length = kws.length) (h : cMode c x es' zs ks = some e') :
    PE X (.Call (.Name x p) es kws pos) (tD X.K mg W (ev Γ e')) := by
  unfold cMode at h
  obtain ⟨h1, h⟩ := ifn h
  rw [Bool.not_eq_false', Bool.and_eq_true] at h1
  obtain ⟨m, em, rfl⟩ := mpd h
  unfold modeC at em
  have hm := List.mem_of_find?_eq_some em
  have hp := List.find?_some em
  simp only [Bool.and_eq_true, decide_eq_true_eq] at hp
  obtain ⟨p1, p2, p3⟩ := hp
  have z : ev Γ (.call x (es' ++ (zs ++ m.2.2.2.map .cst))) = fun ρ => M.bind (evs Γ es' ρ) fun ds => M.bind (evs Γ zs ρ) fun ys => Γ.fn m.1 (ds ++ (ys ++ m.2.2.2)) := by
    funext ρ
    simp only [ev, evs_app, evs_cst, M.bind_assoc, M.pure_bind, p1]
  rw [z]
  refine pe_modeD k.tk (k.modes m hm) p1 (k.gl h1.2) (by rw [p3]; exact hk) ha hz (fun ρ st ds st1 e => by rw [evs_len e, p2]) (fun ρ st ds st1 e => by rw [evs_len e, p3, hlz, kwNames_len hk]) (okName_ok h1.1).1 hs ?_
  intro e0
  subst e0
  cases es' with
  | nil => funext ρ; simp only [evs]
  | cons _ _ => cases hl
/-- a dict of one constant pair -/
theorem pe_dicD {i : Int} {v : V} {e : Expr} {k1 : Nat} {p1 pos : Pos} (he : PE X e (tC v)) : PE X (.Dict [some (.Constant (.int i) k1 p1)] [e] pos) (tD X.K mg W fun _ => M.pure .dic) := by
  refine PE.of (pe_disp (pps_cons (pe_int (i := i)) he pps_nil) rfl rfl (by simp) (by simp)) ?_
  rintro σ H Q ⟨J, G, ρ, st, w, h⟩ p hp
  refine ⟨upd_same, [(.inl i, v)], rfl, by simp, ?_⟩
  have e : upd (upd H p (.dK [])) p (.dK (mergeK [] [(.inl i, v)])) = upd H p (.dK (mergeK [] [(.inl i, v)])) := by
    funext b
    by_cases q : b = p
    · rw [q, upd_same, upd_same]
    · rw [upd_ne q, upd_ne q, upd_ne q]
  rw [e]
  have x := Ext.new (J := J) (o := .dK (mergeK [] [(.inl i, v)])) w.le hp
  exact post_pure h w.j _ _ _ x (Same.upd hp) (.dic upd_same)
theorem pe_dicD2 {i j : Int} {v u : V} {e e' : Expr} {k1 k2 : Nat} {p1 p2 pos : Pos} (he : PE X e (tC v)) (he' : PE X e' (tC u)) : PE X (.Dict [some (.Constant (.int i) k1 p1), some (.Constant (.int j) k2 p2)] [e, e'] pos) (tD X.K mg W fun _ => M.pure .dic) := by
  refine PE.of (pe_disp (pps_cons (pe_int (i := i)) he (pps_cons (pe_int (i := j)) he' pps_nil)) rfl rfl (by simp) (by simp)) ?_
  rintro σ H Q ⟨J, G, ρ, st, w, h⟩ p hp
  refine ⟨upd_same, [(.inl i, v), (.inl j, u)], rfl, by simp, ?_⟩
  have e : upd (upd H p (.dK [])) p (.dK (mergeK [] [(.inl i, v), (.inl j, u)])) = upd H p (.dK (mergeK [] [(.inl i, v), (.inl j, u)])) := by
    funext b
    by_cases q : b = p
    · rw [q, upd_same, upd_same]
    · rw [upd_ne q, upd_ne q, upd_ne q]
  rw [e]
  have x := Ext.new (J := J) (o := .dK (mergeK [] [(.inl i, v), (.inl j, u)])) w.le hp
  exact post_pure h w.j _ _ _ x (Same.upd hp) (.dic upd_same)
theorem range_ok : ∀ {x : Str}, strB x "range" = true → x = "range" := strB_ok
theorem sound_it (k : OkX X mg W c Γ) {f : Expr → Option C} (hf : ∀ e e', f e = some e' → PB X mg W e (ev Γ e')) {tg iter : Expr} {it : IK × List C} (h : cIt c f tg iter = some it) :
    PI X tg iter (iD X.K mg W fun ρ => M.bind (evs Γ it.2 ρ) fun ds => lift (itemsD it.1 ds)) ∧ (∀ x, foldedSetIterable iter X.env x = pure x) := by
  have one : ∀ {e : Expr} {a' : C}, f e = some a' → PI X tg e (iD X.K mg W fun ρ => M.bind (evs Γ [a'] ρ) fun ds => lift (itemsD .val ds)) := fun {e a'} q => by
    have z : (fun ρ => M.bind (evs Γ [a'] ρ) fun ds => lift (itemsD .val ds)) = fun ρ => M.bind (ev Γ a' ρ) fun d => lift (itemsD .val [d]) := by
      funext ρ
      simp only [evs, M.bind_assoc, M.pure_bind]
    rw [z]
    exact pi_valD (hf _ _ q).1
  have e1 : ∀ a' : C, evs Γ [a'] = fCons (ev Γ a') fun _ => M.pure [] := fun a' => by
    funext ρ; simp only [evs]; rfl
  have e2 : ∀ a' b' : C, evs Γ [a', b'] = fCons (ev Γ a') (fCons (ev Γ b') fun _ => M.pure []) := fun a' b' => by
    funext ρ; simp only [evs]; rfl
  unfold cIt at h
  split at h
  · split at h
    · rename_i hr
      rw [Bool.and_eq_true] at hr
      obtain ⟨g1, g2, g3⟩ := cBn_ok k hr.1
      obtain ⟨s1, h⟩ := ifn h
      obtain ⟨a', ea, rfl⟩ := mpd h
      refine ⟨?_, fun x => rfl⟩
      show PI X tg _ (iD X.K mg W fun ρ => M.bind (evs Γ [a'] ρ) _)
      rw [e1]
      exact pi_rng1D (strB_ok hr.2) g1 g2 (hf _ _ ea).1 s1
    · split at h
      · rename_i hr
        rw [Bool.and_eq_true] at hr
        obtain ⟨g1, g2, g3⟩ := cBn_ok k hr.1
        obtain ⟨s1, h⟩ := ifn h
        rw [Bool.or_eq_false_iff] at s1
        obtain ⟨a', ea, rfl⟩ := mpd h
        refine ⟨?_, fun x => rfl⟩
        show PI X tg _ (iD X.K mg W fun ρ => M.bind (evs Γ [a'] ρ) _)
        rw [e1]
        have ht : isTup tg = true := by simpa using s1.2
        cases tg with
        | Tuple es kk p => exact pi_enumD (strB_ok hr.2) g1 g2 (hf _ _ ea).1 s1.1
        | _ => cases ht
      · obtain ⟨a', ea, rfl⟩ := mpd h
        exact ⟨one ea, fun x => rfl⟩
  · split at h
    · rename_i hr
      rw [Bool.and_eq_true] at hr
      obtain ⟨g1, g2, g3⟩ := cBn_ok k hr.1
      obtain ⟨s1, h⟩ := ifn h
      rw [Bool.or_eq_false_iff] at s1
      obtain ⟨a', ea, h⟩ := bnd h
      obtain ⟨b', eb, rfl⟩ := mpd h
      refine ⟨?_, fun x => rfl⟩
      show PI X tg _ (iD X.K mg W fun ρ => M.bind (evs Γ [a', b'] ρ) _)
      rw [e2]
      exact pi_rng2D (strB_ok hr.2) g1 g2 (hf _ _ ea).1 (hf _ _ eb).1 s1.1 s1.2
    · split at h
      · rename_i hr
        rw [Bool.and_eq_true] at hr
        obtain ⟨g1, g2, g3⟩ := cBn_ok k hr.1
        obtain ⟨s1, h⟩ := ifn h
        rw [Bool.or_eq_false_iff, Bool.or_eq_false_iff] at s1
        obtain ⟨a', ea, h⟩ := bnd h
        obtain ⟨b', eb, rfl⟩ := mpd h
        refine ⟨?_, fun x => rfl⟩
        show PI X tg _ (iD X.K mg W fun ρ => M.bind (evs Γ [a', b'] ρ) _)
        rw [e2]
        have ht : isTup tg = true := by simpa using s1.2
        cases tg with
        | Tuple es kk p => exact pi_zipD (strB_ok hr.2) g1 g2 (hf _ _ ea).1 (hf _ _ eb).1 s1.1.1 s1.1.2
        | _ => cases ht
      · obtain ⟨a', ea, rfl⟩ := mpd h
        exact ⟨one ea, fun x => rfl⟩
  · obtain ⟨s1, h⟩ := ifn h
    obtain ⟨a', ea, rfl⟩ := mpd h
    refine ⟨one ea, fun x => ?_⟩
    cases iter <;> first | rfl | cases s1
theorem evt_one {a : C} : evt Γ [a] = tst (ev Γ a) := by
  funext ρ st
  simp only [evt, tst, M.bind]
  cases ev Γ a ρ st with
  | ok d s1 =>
    simp only [Res.bind]
    show Res.bind (lift (truD d) s1) _ = lift (truD d) s1
    cases truD d with
    | none => rfl
    | some t => cases t <;> rfl
  | err _ _ => rfl
  | stuck => rfl
end
end DE
/-! .. the theorem for expressions -/
namespace DE
open PySem PySem.Spec PyProof.Rows L2
theorem two_stars {a b : Expr} (h1 : isStar a = false) (h2 : isStar b = false) : noStars [a, b] = true := by unfold noStars; simp [h1, h2]
theorem plainIx {i : Expr} (h : isSlice i = false) : PlainIx i := by
  intro o j
  cases i <;> first | rfl | cases h
theorem sound_isi {X : Cx} {mg : MG} {W : WX} {c : Ct} {Γ : Gam} (k : OkX X mg W c Γ) {x : Str} {a t : Expr} {a' : C} {ts : List String} {p pos : Pos} (hx : strB x "isinstance" = true) (g1 : Gl X x) (g2 : X.mg x = none) (ea : PE X a (tD X.K mg W (ev Γ a')))
    (et : cTys c t = some ts) (h1 : ts.length ≤ 1000000) (h2 : (ts.all fun t => tyKnown.contains t) = true) (s1 : isStar a = false) : PE X (.Call (.Name x p) [a, t] [] pos) (tD X.K mg W (ev Γ (.isi a' (ts.map .bt)))) := by
  have z : ev Γ (.isi a' (ts.map .bt)) = fun ρ => M.bind (ev Γ a' ρ) fun x => lift ((isiD x (ts.map .bt)).map .bl) := by funext ρ; simp only [ev]
  rw [z]
  cases t with
  | Name y py =>
    simp only [cTys] at et
    obtain ⟨ny, en, rfl⟩ := mpd et
    obtain ⟨q1, q2⟩ := sound_ty1 k en
    exact pe_isi1 (strB_ok hx) g1 g2 ea q2 s1 q1
  | Tuple ees kk pp =>
    simp only [cTys] at et
    exact pe_isiN (strB_ok hx) g1 g2 ea (sound_tys k et) h1 (tyAll_map h2) s1
  | _ => exact absurd et (by simp [cTys])
theorem sound_comp {X : Cx} {mg : MG} {W : WX} {c : Ct} {Γ : Gam} {n : Nat} (k : OkX X mg W c Γ) (ihE : ∀ e e', cE c n e = some e' → PB X mg W e (ev Γ e')) (ih : ∀ {X : Cx} {W : WX} {c : Ct} {e : Expr} {e' : C}, OkX X mg W c Γ → cE c n e = some e' → PB X mg W e (ev Γ e'))
    {elt tg iter : Expr} {ifs : List Expr} {scope : Scope} {pos : Pos} {it : IK × List C} {t : Tg} {ifs' : List C} {elt' : C} (ei : cIt c (cE c n) tg iter = some it) (h1 : (!blkC c.N c.sc scope (ownOf c.N scope)) = false) (et : cTg (inner c scope) n tg = some t)
    (h2 : (!((tgVars t).all fun i => decide (i ∈ (ownOf c.N scope).map (·.2)))) = false) (h3 : decide (1 < ifs.length) = false) (e1 : mapO (cE (inner c scope) n) ifs = some ifs') (e2 : cE (inner c scope) n elt = some elt') :
    PE X (.ListComp elt [⟨tg, iter, ifs, 0⟩] scope pos) (tF X.K mg W (fComp (fun ρ => M.bind (evs Γ it.2 ρ) fun ds => lift (itemsD it.1 ds)) t ((ownOf c.N scope).map (·.2)) (evt Γ ifs') (ev Γ elt'))) ∧
    (BlkOk X.N X.env.scope scope (ownOf c.N scope)) ∧ (∀ i ∈ tgVars t, i ∈ (ownOf c.N scope).map (·.2)) ∧ (∀ x, foldedSetIterable iter X.env x = pure x) ∧
    PI X tg iter (iD X.K mg W fun ρ => M.bind (evs Γ it.2 ρ) fun ds => lift (itemsD it.1 ds)) ∧
    (∀ (s : Shared) (H : Hp) (C : Addr) (cl : List (Str × Addr)) (fp : List Addr), PG (X.blk s H scope (compEnvC scope cl C X.env) fp) tg (gD X.K mg t)) ∧
    (∀ (s : Shared) (H : Hp) (C : Addr) (cl : List (Str × Addr)) (fp : List Addr), PTs (X.blk s H scope (compEnvC scope cl C X.env) fp) ifs (tDb X.K mg W0 (evt Γ ifs'))) ∧
    (∀ (s : Shared) (H : Hp) (C : Addr) (cl : List (Str × Addr)) (fp : List Addr), PE (X.blk s H scope (compEnvC scope cl C X.env) fp) elt (tD X.K mg W0 (ev Γ elt'))) := by
  obtain ⟨wi, ws⟩ := sound_it k ihE ei
  have ok : BlkOk X.N X.env.scope scope (ownOf c.N scope) := by
    rw [k.N, k.sc]
    exact blkOk_by (by simpa using h1)
  have inn := fun (s : Shared) (H : Hp) (C : Addr) (cl : List (Str × Addr)) (fp : List Addr) => k.inner (s := s) (H := H) (C := C) (cl := cl) (fp := fp) (scope := scope)
  have hv : ∀ i ∈ tgVars t, i ∈ (ownOf c.N scope).map (·.2) := by simpa using h2
  have tests : ∀ (s : Shared) (H : Hp) (C : Addr) (cl : List (Str × Addr)) (fp : List Addr), PTs (X.blk s H scope (compEnvC scope cl C X.env) fp) ifs (tDb X.K mg W0 (evt Γ ifs')) := fun s H C cl fp => by
    cases ifs with
    | nil =>
      cases e1
      refine ⟨fun pins s σ H Q I h => pts_nil.run pins s σ H Q I ?_⟩
      obtain ⟨J, G, ρ, st, w, h⟩ := h
      simp only [evt] at h
      exact post_pure h w.j true G H (Ext.refl w.le) same_refl rfl
    | cons a r => cases r with
      | nil =>
        simp only [mapO] at e1
        obtain ⟨a', ea, e1⟩ := bnd e1
        cases e1
        rw [evt_one]
        exact pts_one (ih (inn s H C cl fp) ea).2
      | cons b r => exact absurd h3 (by simp)
  have tgs := fun s H C cl fp => (ge_nm (inn s H C cl fp) n).1 _ _ et
  have els := fun s H C cl fp => (ih (inn s H C cl fp) e2).1
  exact ⟨pe_compF k.calm k.nd wi ok tgs tests els hv ws, ok, hv, ws, wi, tgs, tests, els⟩
theorem ev_comp {Γ : Gam} {elt' : C} {t : Tg} {it : IK × List C} {ifs' : List C} {vs : List Nat} : ev Γ (.comp elt' t it.1 it.2 ifs' vs) = fun ρ => M.bind (fComp (fun ρ => M.bind (evs Γ it.2 ρ) fun ds => lift (itemsD it.1 ds)) t vs (evt Γ ifs') (ev Γ elt') ρ) fun ys => M.pure (.lst ys) := by
  funext ρ
  simp only [ev, fComp, M.bind_assoc]
theorem sound {mg : MG} {Γ : Gam} : ∀ (n : Nat) {X : Cx} {W : WX} {c : Ct} {e : Expr} {e' : C}, OkX X mg W c Γ → cE c n e = some e' → PB X mg W e (ev Γ e') := by
  intro n
  induction n with
  | zero => intro X W c e e' _ h; simp [cE] at h
  | succ n ih =>
    intro X W c e e' k h
    have ihE : ∀ e e', cE c n e = some e' → PB X mg W e (ev Γ e') := fun e e' h => ih k h
    have args : ∀ {es : List Expr} {es' : List C}, noStars es = true → mapO (cE c n) es = some es' → PA X es (tDs X.K mg W (evs Γ es')) ∧ es'.length = es.length := fun h1 h2 => sound_args ihE h1 h2
    unfold cE at h
    split at h
    -- constants
    · obtain ⟨d, ed, rfl⟩ := mpd h
      rename_i kk _ _
      have z : ∀ d, ev Γ (.cst d) = fun _ => M.pure d := fun d => by funext ρ; simp only [ev]
      rw [z]
      cases kk <;> cases ed
      · exact .v (pe_cstD pe_non fun _ _ => .non)
      · exact .v (pe_cstD pe_bl fun _ _ => .bl _)
      · exact .v (pe_cstD pe_int fun _ _ => .int _)
      · exact .v (pe_cstD pe_str fun _ _ => .str _)
    -- names
    · split at h
      · rename_i i hv
        cases h
        unfold cVar at hv
        obtain ⟨h1, h2⟩ := ify hv
        rw [Bool.and_eq_true] at h1
        have z : ev Γ (.var i) = fun ρ => lift (getVar ρ i) := by funext ρ; simp only [ev]
        rw [z]
        exact .v (pe_varD (k.at_ h2) (k.vis h1.2) (okName_ok h1.1).1 (okName_ok h1.1).2)
      · obtain ⟨d, ed, rfl⟩ := mpd h
        unfold cCst at ed
        obtain ⟨h1, h2⟩ := ify ed
        rw [Bool.and_eq_true] at h1
        obtain ⟨v, u, hm, rv, rp⟩ := k.csts _ _ h2
        have z : ev Γ (.cst d) = fun _ => M.pure d := by funext ρ; simp only [ev]
        rw [z]
        exact .v (pe_cstD (pe_glob (k.gl h1.2) hm rv (okName_ok h1.1).1) rp)
    -- a op b
    · obtain ⟨o', eo, h⟩ := bnd h
      obtain ⟨a', ea, h⟩ := bnd h
      obtain ⟨b', eb, h⟩ := bnd h
      cases h
      have z : ev Γ (.bin o' a' b') = fun ρ => M.bind (ev Γ a' ρ) fun x => M.bind (ev Γ b' ρ) fun y => lift (binD o' x y) := by funext ρ; simp only [ev]
      rw [z, cBop_ok eo]
      exact .v (pe_binD (ihE _ _ ea).1 (ihE _ _ eb).1)
    · obtain ⟨a', ea, rfl⟩ := mpd h
      have z : ev Γ (.neg a') = fun ρ => M.bind (ev Γ a' ρ) fun x => lift (negD x) := by funext ρ; simp only [ev]
      rw [z]
      exact .v (pe_negD (ihE _ _ ea).1)
    · obtain ⟨a', ea, rfl⟩ := mpd h
      have z : ev Γ (.not a') = fun ρ => M.bind (ev Γ a' ρ) fun x => lift ((truD x).map fun b => .bl (!b)) := by funext ρ; simp only [ev]
      rw [z]
      exact ⟨pe_notD (ihE _ _ ea).1, pt_notD (ihE _ _ ea).2⟩
    · exact ⟨pe_one (ihE _ _ h).1, (pw_and1 (ihE _ _ h).2).pt⟩
    · exact ⟨pe_one (ihE _ _ h).1, (pw_or1 (ihE _ _ h).2).pt⟩
    · obtain ⟨a', ea, h⟩ := bnd h
      obtain ⟨b', eb, h⟩ := bnd h
      cases h
      have z : ev Γ (.and a' b') = fAnd (ev Γ a') (ev Γ b') := by funext ρ; simp only [ev]; rfl
      rw [z]
      refine ⟨pe_andD (ihE _ _ ea).1 (ihE _ _ eb).1, ?_⟩
      have hb := (ihE _ _ eb).2
      exact (pw_andD (ihE _ _ ea).2 ⟨fun whole pins s σ H Q I q => hb.run pins s σ H Q I q⟩).pt
    · obtain ⟨a', ea, h⟩ := bnd h
      obtain ⟨b', eb, h⟩ := bnd h
      cases h
      have z : ev Γ (.or a' b') = fOr (ev Γ a') (ev Γ b') := by funext ρ; simp only [ev]; rfl
      rw [z]
      refine ⟨pe_orD (ihE _ _ ea).1 (ihE _ _ eb).1, ?_⟩
      have hb := (ihE _ _ eb).2
      exact (pw_orD (ihE _ _ ea).2 ⟨fun whole pins s σ H Q I q => hb.run pins s σ H Q I q⟩).pt
    -- comparisons
    · obtain ⟨hm, h⟩ := ifn h
      obtain ⟨o', eo, h⟩ := bnd h
      obtain ⟨a', ea, h⟩ := bnd h
      obtain ⟨b', eb, h⟩ := bnd h
      cases h
      have z : ev Γ (.cmp o' a' b') = fun ρ => M.bind (ev Γ a' ρ) fun x => M.bind (ev Γ b' ρ) fun y => lift ((cmpD o' x y).map .bl) := by funext ρ; simp only [ev]
      rw [z]
      have eo := cCop_ok eo
      subst eo
      exact ⟨pe_cmpD k.hu (ihE _ _ ea).1 (ihE _ _ eb).1 hm, pt_cmpD k.hu (ihE _ _ ea).1 (ihE _ _ eb).1 hm⟩
    · obtain ⟨hm, h⟩ := ifn h
      obtain ⟨o', eo, h⟩ := bnd h
      obtain ⟨p', ep, h⟩ := bnd h
      obtain ⟨a', ea, h⟩ := bnd h
      obtain ⟨b', eb, h⟩ := bnd h
      obtain ⟨d', ed, h⟩ := bnd h
      cases h
      have z : ev Γ (.chain o' p' a' b' d') = fChain o' p' (ev Γ a') (ev Γ b') (ev Γ d') := by funext ρ; simp only [ev]; rfl
      rw [z]
      have eo := cCop_ok eo
      have ep := cCop_ok ep
      subst eo ep
      exact ⟨pe_chainD k.hu (ihE _ _ ea).1 (ihE _ _ eb).1 (ihE _ _ ed).1 hm, pt_chainD k.hu (ihE _ _ ea).1 (ihE _ _ eb).1 (ihE _ _ ed).1 hm⟩
    · obtain ⟨t', et, h⟩ := bnd h
      obtain ⟨a', ea, h⟩ := bnd h
      obtain ⟨b', eb, h⟩ := bnd h
      cases h
      have z : ev Γ (.ite t' a' b') = fIte (ev Γ t') (ev Γ a') (ev Γ b') := by funext ρ; simp only [ev]; rfl
      rw [z]
      exact ⟨pe_iteD (ihE _ _ et).2 (ihE _ _ ea).1 (ihE _ _ eb).1, pt_iteD (ihE _ _ et).2 (ihE _ _ ea).2 (ihE _ _ eb).2⟩
    -- rows
    · obtain ⟨h1, h⟩ := ify h
      rw [Bool.and_eq_true] at h1
      obtain ⟨es', e1, rfl⟩ := mpd h
      obtain ⟨ha, hl⟩ := args h1.1 e1
      have z : ev Γ (.tup es') = fun ρ => M.bind (evs Γ es' ρ) fun ds => M.pure (.tup ds) := by funext ρ; simp only [ev]
      rw [z]
      exact .v (pe_tupD ha fun ρ st ds st1 e => by rw [evs_len e, hl]; exact of_decide_eq_true h1.2)
    · obtain ⟨h1, h⟩ := ify h
      rw [Bool.and_eq_true] at h1
      obtain ⟨es', e1, rfl⟩ := mpd h
      obtain ⟨ha, hl⟩ := args h1.1 e1
      have z : ev Γ (.lst es') = fun ρ => M.bind (evs Γ es' ρ) fun ds => M.pure (.lst ds) := by funext ρ; simp only [ev]
      rw [z]
      exact .v (pe_lstD ha fun ρ st ds st1 e => by rw [evs_len e, hl]; exact of_decide_eq_true h1.2)
    -- a[lo:hi], a[i]
    · obtain ⟨a', ea, h⟩ := bnd h
      obtain ⟨l, el, h⟩ := bnd h
      obtain ⟨u, eu, h⟩ := bnd h
      cases h
      have z : ev Γ (.slc a' l u) = fun ρ => M.bind (ev Γ a' ρ) fun x => M.bind (fOpt (l.map (ev Γ)) ρ) fun l => M.bind (fOpt (u.map (ev Γ)) ρ) fun h => lift (slcD x l h) := by
        funext ρ; simp only [ev, fOpt_ev]
      rw [z]
      exact .v (pe_slcD (ihE _ _ ea).1 (sound_opt ihE el) (sound_opt ihE eu))
    · obtain ⟨h1, h⟩ := ifn h
      rw [Bool.or_eq_false_iff] at h1
      obtain ⟨a', ea, h⟩ := bnd h
      obtain ⟨i', ei, h⟩ := bnd h
      cases h
      have z : ev Γ (.idx a' i') = fun ρ => M.bind (ev Γ a' ρ) fun x => M.bind (ev Γ i' ρ) fun y => idxM x y := by funext ρ; simp only [ev]
      rw [z]
      exact .v (pe_idxD (ihE _ _ ea).1 (ihE _ _ ei).1 (plainIx h1.1))
    -- calls
    · split at h
      · rename_i hi
        rw [Bool.and_eq_true] at hi
        obtain ⟨g1, g2, g3⟩ := cBn_ok k hi.2
        obtain ⟨h1, h⟩ := ifn h
        rw [Bool.or_eq_false_iff] at h1
        obtain ⟨a', ea, h⟩ := bnd h
        obtain ⟨ts, et, h⟩ := bnd h
        obtain ⟨h2, h⟩ := ify h
        cases h
        rw [Bool.and_eq_true] at h2
        exact .v (sound_isi k hi.1 g1 g2 (ihE _ _ ea).1 et (of_decide_eq_true h2.1) h2.2 h1.1)
      · obtain ⟨h1, h⟩ := ifn h
        rw [Bool.or_eq_false_iff] at h1
        obtain ⟨es', e1, h⟩ := bnd h
        have hns := two_stars h1.1 h1.2
        obtain ⟨ha, hl⟩ := args hns e1
        split at h
        · rename_i hc
          cases h
          exact .v (sound_call k hns ha hl hc)
        · exact .v (sound_mode k hns ha hl rfl (sound_kws ihE (zs := []) rfl).1 rfl h)
    · obtain ⟨h1, h⟩ := ify h
      obtain ⟨es', e1, h⟩ := bnd h
      obtain ⟨ha, hl⟩ := args h1 e1
      split at h
      · rename_i hc
        cases h
        exact .v (sound_call k h1 ha hl hc)
      · exact .v (sound_mode k h1 ha hl rfl (sound_kws ihE (zs := []) rfl).1 rfl h)
    · obtain ⟨h1, h⟩ := ify h
      obtain ⟨ks, ek, h⟩ := bnd h
      obtain ⟨es', e1, h⟩ := bnd h
      obtain ⟨zs, e2, h⟩ := bnd h
      obtain ⟨ha, hl⟩ := args h1 e1
      obtain ⟨hz, hlz⟩ := sound_kws ihE e2
      exact .v (sound_mode k h1 ha hl ek hz hlz h)
    · obtain ⟨d, ed, rfl⟩ := mpd h
      have z : ev Γ (.cst .dic) = fun _ => M.pure .dic := by funext ρ; simp only [ev]
      rw [z]
      rename_i kk _ _ _
      cases kk <;> cases ed
      · exact .v (pe_dicD pe_non)
      · exact .v (pe_dicD pe_bl)
      · exact .v (pe_dicD pe_int)
      · exact .v (pe_dicD pe_str)
    · obtain ⟨d, ed, h⟩ := bnd h
      obtain ⟨d', ed', rfl⟩ := mpd h
      have z : ev Γ (.cst .dic) = fun _ => M.pure .dic := by funext ρ; simp only [ev]
      rw [z]
      have one : ∀ (cc : Const) (d : D) (kk : Nat) (pp : Pos), cK cc = some d → ∃ v, PE X (.Constant cc kk pp) (tC v) := by
        intro cc d kk pp h
        cases cc <;> cases h
        · exact ⟨_, pe_non⟩
        · exact ⟨_, pe_bl⟩
        · exact ⟨_, pe_int⟩
        · exact ⟨_, pe_str⟩
      obtain ⟨_, o1⟩ := one _ _ _ _ ed
      obtain ⟨_, o2⟩ := one _ _ _ _ ed'
      exact .v (pe_dicD2 o1 o2)
    -- comprehensions
    · obtain ⟨h1, h⟩ := ifn h
      obtain ⟨it, ei, h⟩ := bnd h
      obtain ⟨t, et, h⟩ := bnd h
      obtain ⟨h2, h⟩ := ifn h
      obtain ⟨h3, h⟩ := ifn h
      obtain ⟨ifs', e1, h⟩ := bnd h
      obtain ⟨elt', e2, h⟩ := bnd h
      cases h
      rw [ev_comp]
      exact .v (tF_D (sound_comp k ihE ih ei h1 et h2 h3 e1 e2).1)
    · cases h
end DE
/-! try: body, except x as n: suite, any number of clauses -/
namespace DE
open PySem PySem.Spec PyProof.Rows L2
/-- one clause: the class, the name's slot, what its suite does -/
abbrev Cl := Value × Nat × (Addr → Value → Option Addr → TS)
abbrev endsN (D : Ends) (i : Nat) : Ends := { nx := fun σ' H' => D.nx (σ'.set i none) H', rt := D.rt, bk := fun σ' H' => D.bk (σ'.set i none) H', ct := fun σ' H' => D.ct (σ'.set i none) H' }
def wNam (K : PySem.W.Frag) (Wout : WX) (D : Ends) : List Cl → WX
  | [] => Wout
  | (c, i, ts) :: r => fun cls d σ H => ∃ b, PySem.W.exmOne K cls c = some b ∧ (b = true → ∀ a, H a = none → ts a cls d (endsN D i) (σ.set i (some (.ref a))) H) ∧ (b = false → wNam K Wout D r cls d σ H)
inductive ClsOk (X : Cx) : List ExceptHandler → List Cl → Prop
  | nil : ClsOk X [] []
  | cons {x n : Str} {i : Nat} {c : Value} {ts : Addr → Value → Option Addr → TS} {b₀ : Stmt} {suite : List Stmt} {np pos' : Pos} {hds : List ExceptHandler} {l : List Cl} (hc : Names X x c) (hi : X.N[i]? = some n) (hln : X.env.kindOf n = some .local)
      (hsu : ∀ (a : Addr) (oe : Obj) (cls : Value) (d : Option Addr) (pn : List (Addr × Obj)), Zc cls d oe → (∃ vs, oe.data = .fields vs) → PSs (X.suite a ((a, oe) :: pn)) (b₀ :: suite) (ts a cls d)) (r : ClsOk X hds l) :
      ClsOk X (.ExceptHandler (some (.Name x np)) (some n) (b₀ :: suite) pos' :: hds) ((c, i, ts) :: l)
section
variable {X : Cx} {body : List Stmt} {h₀ : ExceptHandler} {hds : List ExceptHandler} {l : List Cl} {pos : Pos} {tb : WX → TS} {Wout : WX}
theorem ps_try_named (hs : X.stack = X.env :: X.outer) (hf : X.env.frame = some X.env.locals) (hN : X.N.Nodup) (tk : Takes X Wout)
    (hb : ∀ (W : WX) (pn : List (Addr × Obj)) (xe : Value → Shared → Prop), Takes (X.tr pn xe) W → PassesOwn (model X.prog X.w) X.A X.env xe → PSs (X.tr pn xe) body (tb W))
    (hh : ClsOk X (h₀ :: hds) l) : PS X (.Try body (h₀ :: hds) [] [] pos) (fun D σ H => tb (wNam X.K Wout D l) D σ H) := by
  refine ⟨fun pins s σ H D I h => ?_⟩
  have ok := I.ok
  have hfr : X.A.frames = some (X.env :: X.outer) := by rw [ok.frames, hs]
  refine wpAny_Try_except ?_
  refine wpAny_mono ((hb (wNam X.K Wout D l) (X.pn ++ pins) (fun e s₁ => wpAny (model X.prog X.w) X.A (noteFrame e X.env) (fun _ s₂ => wpAny (model X.prog X.w) X.A (setFlight e none) (fun _ s₃ =>
    wpAny (model X.prog X.w) X.A (handleBy e X.env (h₀ :: hds)) (SP X pins D) X.xe s₃) X.xe s₂) X.xe s₁) (fun u s' xx => ?_) PassesOwn.looking).run [] s σ H D (I.toTry _) h) (fun f s1 hsp => ?_) (fun e s1 he => he)
  · obtain ⟨a, B, sI, pins', σ', H', cls, d, rfl, J', nb, up, sky, na, os, ag, w⟩ := xx
    have J : Inv X pins σ' H' sI := J'.ofTry ok
    have sky' : Sky B (X.env :: X.outer) a (Zc cls d) X.env.locals s'.heap := by rw [← hs]; exact sky
    show wpAny (model X.prog X.w) X.A (noteFrame (.ref a) X.env) _ _ _
    refine Sky.land Zc.steady hfr hf sky' fun h3 fl3 up3 => ?_
    have J3 : Inv X pins σ' H' { s' with heap := h3 } := J.landed nb fl3.1 (up.trans up3) os ag
    obtain ⟨oe3, vs3, he3, hz3, hd3⟩ := fl3.there
    have notFr : ∀ {h : Heap} {o : Obj} {vs : Array Value}, h.FunFrames B (X.env :: X.outer) → h.get? a = some o → o.data = .fields vs → a ∉ frs (X.env :: X.outer) := fun {h o vs} ff e dd hm => by
      obtain ⟨_, o', e', hnf⟩ := ff.mem hm
      rw [e] at e'; cases e'
      exact hnf _ dd
    have nfr := notFr fl3.2.2.1 he3 hd3
    have nL : a ≠ X.env.locals := fun z => nfr (List.mem_filterMap.mpr ⟨X.env, List.mem_cons_self, by rw [hf, z]⟩)
    have nF : a ∉ X.fs := fun hm => by
      obtain ⟨e, he, q⟩ := List.mem_filterMap.mp hm
      exact nfr (List.mem_filterMap.mpr ⟨e, List.mem_cons_of_mem _ he, q⟩)
    have S3 := J3.suite he3 hd3 na nL nF
    have go : ∀ {hds' : List ExceptHandler} {l' : List Cl}, ClsOk X hds' l' → wNam X.K Wout D l' cls d σ' H' →
        wpAny (model X.prog X.w) X.A (handleBy (.ref a) X.env hds') (SP X pins D) X.xe { s' with heap := h3 } := by
      intro hds' l' hk
      induction hk with
      | nil =>
        intro w
        refine wpAny_handleBy_nil ?_
        obtain ⟨k1, k2, k3, oe, vs, T, oT, ts', he, hz, hd, h1, hr⟩ := id fl3
        unfold PySem.passOn
        refine wpAny_bind (wpAny_field he hd h1 ?_)
        rw [if_neg (show ¬ ((Value.ref T == Value.none) = true) from by simp)]
        have fin : wpAny (model X.prog X.w) X.A (setFlight (.ref a) X.env.frame) (fun _ s4 => wpAny (model X.prog X.w) X.A (throw (.ref a) : Sem Flow) (SP X pins D) X.xe s4) X.xe { s' with heap := h3 } := by
          rw [hf]
          refine HandSPX.setFlight_upZ fl3 fun h4 hh4 up4 => wpAny_throw (tk _ _ ?_)
          exact ⟨a, B, sI, pins, σ', H', cls, d, rfl, J, nb, (up.trans up3).trans up4, .inr (.inr (by rw [hs]; exact hh4)), na, os, ag, w⟩
        first
          | exact wpAny_bind (wpAny_pure (wpAny_bind fin))
          | exact wpAny_bind fin
      | @cons x n i c ts b₀ suite np pos' hds2 l2 hc hi hln hsu r ih =>
        intro w
        obtain ⟨b, hb1, hyes, hno⟩ := w
        refine wpAny_handleBy_cons (codeAny_handlers_test ?_) (by intro q; cases q)
        have LT : PySem.W.Looks (model X.prog X.w) h3 (typeOf (.ref a)) cls := fun A Q E s k q => wpAny_typeOf_ref (k _ _ he3) (by rw [hz3.1]; exact q)
        have LM := PySem.W.exm_one (M := model X.prog X.w) (J3.kIn) LT hb1
        have test : ∀ {Q : Value → Shared → Prop} {E : Value → Shared → Prop}, Q c { s' with heap := h3 } → wpAny (model X.prog X.w) (X.A.mark (some (.ref a))) (eval (.Name x np) X.env) Q E { s' with heap := h3 } := fun {Q E} q => by
          obtain ⟨hg, hdbg, hm | ⟨hm, hv, hnn⟩⟩ := hc
          · exact ld_glob (X := X.suite a ((a, oe3) :: (X.pn ++ pins))) S3 hg hm q hdbg
          · exact ld_blt (X := X.suite a ((a, oe3) :: (X.pn ++ pins))) S3 hg hm hv q hnn hdbg
        refine test (LM.here ?_)
        cases b with
        | true =>
          refine codeAny_handlers_suite_as ?_
          refine HandSPX.lands_againZ fl3 fun h4 fl4 up4 => ?_
          have J4 : Inv X pins σ' H' { s' with heap := h4 } := J.landed nb fl4.1 ((up.trans up3).trans up4) os ag
          obtain ⟨oe4, vs4, he4, hz4, hd4⟩ := fl4.there
          have S4 := J4.suite he4 hd4 na nL nF
          refine store_ok (X := X.suite a ((a, oe4) :: (X.pn ++ pins))) (v := .ref a) S4 hN hi (.inl hln) rfl (fun s5 S5 => ?_) (.inr hln)
          refine wpAny_mono ((hsu a oe4 cls d (X.pn ++ pins) hz4 ⟨_, hd4⟩).run [] s5 _ H' _ S5 (hyes rfl a na)) (fun f s6 hsp => ?_) (fun _ _ z => False.elim z)
          have end_ : ∀ {σ6 : L2.St} {H6 : Hp} {Q : Shared → Prop}, Inv (X.suite a ((a, oe4) :: (X.pn ++ pins))) [] σ6 H6 s6 → (∀ s7, Inv X pins (σ6.set i none) H6 s7 → Q s7) →
              wpAny (model X.prog X.w) X.A (do bindName X.env n .none; unbindBehindTheSuite X.env n pos') (fun _ s7 => Q s7) X.xe s6 := fun {σ6 H6 Q} S6 hq => gone_ok (S6.unsuite ok) hN hi hln hq
          cases f with
          | next =>
            obtain ⟨σ6, H6, S6, q6⟩ := hsp
            exact end_ S6 fun s7 J7 => ⟨_, _, J7, q6⟩
          | brk =>
            obtain ⟨σ6, H6, S6, q6⟩ := hsp
            exact end_ S6 fun s7 J7 => ⟨_, _, J7, q6⟩
          | cont =>
            obtain ⟨σ6, H6, S6, q6⟩ := hsp
            exact end_ S6 fun s7 J7 => ⟨_, _, J7, q6⟩
          | ret u =>
            obtain ⟨v6, σ6, H6, S6, r6, q6⟩ := hsp
            exact end_ S6 fun s7 J7 => ⟨_, _, _, J7, r6, q6⟩
        | false =>
          show wpAny _ X.A (handleBy (.ref a) X.env hds2) _ _ _
          exact ih (hno rfl)
    exact go hh w
  · cases f with
    | next =>
      obtain ⟨σ', H', J', q⟩ := hsp
      exact wpAny_execs_nil ⟨σ', H', J'.ofTry ok, q⟩
    | brk =>
      obtain ⟨σ', H', J', q⟩ := hsp
      exact ⟨σ', H', J'.ofTry ok, q⟩
    | cont =>
      obtain ⟨σ', H', J', q⟩ := hsp
      exact ⟨σ', H', J'.ofTry ok, q⟩
    | ret u =>
      obtain ⟨v, σ', H', J', r, q⟩ := hsp
      exact ⟨v, σ', H', J'.ofTry ok, r, q⟩
end
end DE
/-! try: by data -/
namespace DE
open PySem PySem.Spec PyProof.Rows L2
section
variable {K : PySem.W.Frag} {mg : MG} {J : Option Addr} {G0 H0 G H G1 H1 : Hp} {σ : L2.St} {ρ : Env} {st st1 : S} {W : WX} {Dn : Ends}
theorem SRel.blur (s : SRel K mg J σ H ρ G) (i : Nat) (o : Option V) : SRel K mg J (σ.set i o) H (ρ.set i .non) G := by
  by_cases hi : i < ρ.length
  · refine ⟨by rw [List.length_set, List.length_set, s.len], fun j sl e => ?_, fun j k xs ys a e1 e2 e3 e4 => ?_⟩
    · rw [set_get hi] at e
      rw [set_get (by rw [s.len]; exact hi)]
      by_cases h : j = i
      · rw [if_pos h] at e ⊢
        cases e
        exact True.intro
      · rw [if_neg h] at e ⊢
        exact s.at_ j sl e
    · rw [set_get hi] at e1 e2
      rw [set_get (by rw [s.len]; exact hi)] at e3 e4
      by_cases h : j = i
      · rw [if_pos h] at e1; cases e1
      · by_cases h' : k = i
        · rw [if_pos h'] at e2; cases e2
        · rw [if_neg h] at e1 e3
          rw [if_neg h'] at e2 e4
          exact s.inj j k xs ys a e1 e2 e3 e4
  · have e1 : ρ.set i .non = ρ := List.set_eq_of_length_le (by omega)
    have e2 : σ.set i o = σ := List.set_eq_of_length_le (by rw [s.len]; omega)
    rw [e1, e2]
    exact s
theorem Rel.blur (r : Rel K mg J G0 H0 σ H ρ G st) (i : Nat) (o : Option V) : Rel K mg J G0 H0 (σ.set i o) H (ρ.set i .non) G st := by
  refine r.slots (r.now.s.blur i o) fun j xs a e1 e2 => ?_
  by_cases hi : i < ρ.length
  · rw [set_get hi] at e1
    rw [set_get (by rw [r.now.s.len]; exact hi)] at e2
    by_cases h : j = i
    · rw [if_pos h] at e1; cases e1
    · rw [if_neg h] at e1 e2
      exact r.own j xs a e1 e2
  · rw [List.set_eq_of_length_le (by omega)] at e1
    rw [List.set_eq_of_length_le (by rw [r.now.s.len]; omega)] at e2
    exact r.own j xs a e1 e2
theorem RepF.look {f : Str} : ∀ {fs : List (Str × D)} {vs : List (Str × V)} {d : D}, RepF K mg J G fs vs → fs.lookup f = some d → ∃ v, vs.lookup f = some v ∧ Rep K mg J G d v := by
  intro fs
  induction fs with
  | nil => intro vs d _ h; cases h
  | cons p r ih =>
    intro vs d h e
    cases h with
    | @cons g d' v ds vs a b =>
      rw [List.lookup_cons] at e ⊢
      cases q : f == g with
      | true =>
        rw [q] at e
        cases e
        exact ⟨v, rfl, a⟩
      | false =>
        rw [q] at e
        exact ih b e
end
/-- the caught error is known -/
def XKn (K : PySem.W.Frag) (mg : MG) (J : Option Addr) (G H : Hp) (flds : List Str) (cls : Value) (d : Option Addr) (e : Ex) : Prop :=
  ∃ (C dd : Addr) (fs : List (Str × V)), cls = .ref C ∧ XfC K C ∧ (∀ f ∈ flds, PySem.W.findIn K (.ref C) f = some none) ∧ d = some dd ∧ H dd = some (.xd fs) ∧ RepF K mg J G e.fs fs
theorem XKn.go {K : PySem.W.Frag} {mg : MG} {J : Option Addr} {G H G1 H1 : Hp} {flds : List Str} {cls : Value} {d : Option Addr} {e : Ex} {st : S} (k : XKn K mg J G H flds cls d e) (x : Ext J G H G1 H1) (j : JOk K mg J G H st) : XKn K mg J G1 H1 flds cls d e := by
  obtain ⟨C, dd, fs, h1, h2, h3, h4, h5, h6⟩ := k
  refine ⟨C, dd, fs, h1, h2, h3, h4, x.hh _ _ h5 ?_, h6.mono x.gg⟩
  rintro rfl
  obtain ⟨_, vs, e, _⟩ := j
  rw [h5] at e
  cases e
def hG {α β : Type} (K : PySem.W.Frag) (mg : MG) (flds : List Str) (a : Addr) (cls : Value) (d : Option Addr) (n : Nat) (Rp : Option Addr → Hp → α → β → Prop) (f : Ex → Option α) (σ : L2.St) (H : Hp) (Q : β → Hp → Prop) : Prop :=
  ∃ (J : Option Addr) (G : Hp) (e : Ex) (st : S) (v0 : α), σ[n]? = some (some (.ref a)) ∧ Same G H ∧ JOk K mg J G H st ∧ XKn K mg J G H flds cls d e ∧ f e = some v0 ∧
    ∀ (v : β) (G' H' : Hp), Ext J G H G' H' → JOk K mg J G' H' st → Rp J G' v0 v → Q v H'
def tH (K : PySem.W.Frag) (mg : MG) (flds : List Str) (a : Addr) (cls : Value) (d : Option Addr) (n : Nat) (f : Ex → Option D) : TE := fun σ H Q => hG K mg flds a cls d n (Rep K mg) f σ H Q
def tHs (K : PySem.W.Frag) (mg : MG) (flds : List Str) (a : Addr) (cls : Value) (d : Option Addr) (n : Nat) (f : Ex → Option (List D)) : TA := fun σ H Q => hG K mg flds a cls d n (Reps K mg) f σ H Q
section
variable {X : Cx} {mg : MG} {flds : List Str} {a : Addr} {cls : Value} {d : Option Addr} {n : Nat} {oe : Obj} {pn : List (Addr × Obj)} {pos : Pos}
theorem ph_fld {x f : Str} {px : Pos} (hz : Zc cls d oe) (hf : ∃ vs, oe.data = .fields vs) (hN : X.N[n]? = some x) (hv : Vis X.env.scope x) (hd : (x == ("__debug__" : Str)) = false) (hcd : (x == ("__classdict__" : Str)) = false) (hm : f ∈ flds) :
    PE (X.suite a ((a, oe) :: pn)) (.Attribute (.Name x px) f pos) (tH X.K mg flds a cls d n fun e => e.fs.lookup f) := by
  by_cases hk : ∃ C, cls = .ref C ∧ XfC X.K C ∧ ∀ f ∈ flds, PySem.W.findIn X.K (.ref C) f = some none
  · obtain ⟨C, rfl, T, hn⟩ := hk
    refine PE.of (pe_xf (X := X) T (hn f hm) hz hf (pe_var (X := X.suite a ((a, oe) :: pn)) hN hv hd hcd)) ?_
    rintro σ H Q ⟨J, G, e, st, v0, h1, h2, h3, ⟨C', dd, fs, ec, _, _, ed, eh, rf⟩, h5, q⟩
    obtain ⟨v, ev, rv⟩ := rf.look h5
    exact ⟨_, h1, rfl, rfl, dd, fs, v, ed, eh, ev, q v G H (Ext.refl h2) h3 rv⟩
  · refine ⟨fun pins s σ H Q I h => ?_⟩
    obtain ⟨J, G, e, st, v0, h1, h2, h3, ⟨C', dd, fs, ec, t, z, ed, eh, rf⟩, h5, q⟩ := h
    exact absurd ⟨C', ec, t, z⟩ hk
theorem ph_cst {e : Expr} {v : V} {d0 : D} (h : PE (X.suite a ((a, oe) :: pn)) e (tC v)) (r : ∀ J G, Rep X.K mg J G d0 v) : PE (X.suite a ((a, oe) :: pn)) e (tH X.K mg flds a cls d n fun _ => some d0) := by
  refine PE.of h ?_
  rintro σ H Q ⟨J, G, e, st, v0, h1, h2, h3, k, h5, q⟩
  cases h5
  exact q v G H (Ext.refl h2) h3 (r J G)
theorem phs_nil : PA (X.suite a ((a, oe) :: pn)) [] (tHs X.K mg flds a cls d n fun _ => some []) := by
  refine PA.of pa_nil ?_
  rintro σ H Q ⟨J, G, e, st, v0, h1, h2, h3, k, h5, q⟩
  cases h5
  exact q [] G H (Ext.refl h2) h3 .nil
theorem phs_cons {e : Expr} {es : List Expr} {f : Ex → Option D} {g : Ex → Option (List D)} (hn : isStar e = false) (he : PE (X.suite a ((a, oe) :: pn)) e (tH X.K mg flds a cls d n f)) (hs : PA (X.suite a ((a, oe) :: pn)) es (tHs X.K mg flds a cls d n g)) :
    PA (X.suite a ((a, oe) :: pn)) (e :: es) (tHs X.K mg flds a cls d n fun e => (f e).bind fun x => (g e).map (x :: ·)) := by
  refine PA.of (pa_cons he hs (star1 hn)) ?_
  rintro σ H Q ⟨J, G, ex, st, v0, h1, h2, h3, k, h5, q⟩
  obtain ⟨x, ex1, h6⟩ := bnd h5
  obtain ⟨xs, ex2, rfl⟩ := mpd h6
  refine ⟨J, G, ex, st, x, h1, h2, h3, k, ex1, fun v G1 H1 x1 j1 r1 => ?_⟩
  exact ⟨J, G1, ex, st, xs, h1, x1.le, j1, k.go x1 h3, ex2, fun vs G2 H2 x2 j2 r2 => q (v :: vs) G2 H2 (x1.trans x2) j2 (.cons (r1.mono x2.gg) r2)⟩
theorem evHs_len {e : Ex} : ∀ {hs : List HE} {ds : List D}, evHs e hs = some ds → ds.length = hs.length := by
  intro hs
  induction hs with
  | nil => intro ds h; simp only [evHs] at h; cases h; rfl
  | cons a r ih =>
    intro ds h
    simp only [evHs] at h
    obtain ⟨x, _, h⟩ := bnd h
    obtain ⟨xs, e2, rfl⟩ := mpd h
    simp [ih e2]
theorem ph_tup {es : List Expr} {kk : Nat} {hs : List HE} (hl : hs.length ≤ 1000000) (h : PA (X.suite a ((a, oe) :: pn)) es (tHs X.K mg flds a cls d n fun e => evHs e hs)) : PE (X.suite a ((a, oe) :: pn)) (.Tuple es kk pos) (tH X.K mg flds a cls d n fun e => (evHs e hs).map .tup) := by
  refine PE.of (pe_tup h) ?_
  rintro σ H Q ⟨J, G, ex, st, v0, h1, h2, h3, k, h5, q⟩
  obtain ⟨ds, e1, rfl⟩ := mpd h5
  refine ⟨J, G, ex, st, ds, h1, h2, h3, k, e1, fun vs G1 H1 x1 j1 r1 => ⟨?_, fun p hp => ?_⟩⟩
  · rw [← r1.length, evHs_len e1]; exact small_line hl
  · have g : G1 p = none := by
      cases z : G1 p with
      | none => rfl
      | some o => rw [x1.le p o z] at hp; cases hp
    have x2 : Ext J G1 H1 (upd G1 p (.tup vs)) (upd H1 p (.tup vs)) := Ext.new x1.le hp
    exact q _ _ _ (x1.trans x2) (j1.keep x2 (Same.upd hp)) (rep_tup_new g r1)
/-- the suite: target = .. -/
def tHd (K : PySem.W.Frag) (mg : MG) (flds : List Str) (n i : Nat) (f : Ex → Option D) (a : Addr) (cls : Value) (d : Option Addr) : TS := fun D σ H => tH K mg flds a cls d n f σ H fun v H1 => D.nx (σ.set i (some v)) H1
theorem ps_hd {i : Nat} {x : Str} {e : Expr} {px : Pos} {f : Ex → Option D} (hN : X.N.Nodup) (hi : X.N[i]? = some x) (hx : X.env.scope.names.lookup x = some .local) (he : PE (X.suite a ((a, oe) :: pn)) e (tH X.K mg flds a cls d n f)) (hs : swapsWith e (some (.Name x px)) pos.line X.env = pure false) :
    PSs (X.suite a ((a, oe) :: pn)) [.Assign [.Name x px] e pos] (tHd X.K mg flds n i f a cls d) := by
  refine PSs.of (pss_cons (ps_set (X := X.suite a ((a, oe) :: pn)) hN hi (.inl hx) he hs (.inr hx)) pss_nil) fun D σ H h => ?_
  exact h
end
/-- a clause -/
abbrev Hc := Str × Nat × Nat × HE
def clsOf (K : PySem.W.Frag) (mg : MG) (flds : List Str) (mgv : Str → Value) (h : Hc) : Cl := (mgv h.1, h.2.1, tHd K mg flds h.2.1 h.2.2.1 fun e => evH e h.2.2.2)
def fTry (Γ : Gam) (f : Env → S → RS) (hs : List Hc) : Env → S → RS := fun ρ st => match f ρ st with
  | .err e ρ' st' => handle Γ e ρ' st' hs
  | .nx ρ' st' => .nx ρ' st'
  | .ret d st' => .ret d st'
  | .brk ρ' st' => .brk ρ' st'
  | .cont ρ' st' => .cont ρ' st'
  | .stuck => .stuck
/-- what is known of the classes -/
def Subs (K : PySem.W.Frag) (mg : MG) (flds : List Str) (Γ : Gam) : Prop := ∀ x y b, Γ.sub x y = some b → ∃ Ca Cb : Addr, mg x = some (.ref Ca) ∧ mg y = some (.ref Cb) ∧ PySem.W.exmOne K (.ref Ca) (.ref Cb) = some b ∧ XfC K Ca ∧ ∀ f ∈ flds, PySem.W.findIn K (.ref Ca) f = some none
theorem set3 {α : Type} (l : List α) (n i : Nat) (a b c : α) : ((l.set n a).set i b).set n c = (l.set i b).set n c := by
  by_cases h : n = i
  · subst h; simp
  · rw [List.set_comm _ _ h, List.set_set]
theorem handle_wish {K : PySem.W.Frag} {mg : MG} {flds : List Str} {Γ : Gam} (sb : Subs K mg flds Γ) {mgv : Str → Value} {W : WX} {Dn : Ends} {J : Option Addr} {G0 H0 : Hp} {cls : Value} {dd : Option Addr} {σ : L2.St} {H G : Hp} {ρ : Env} {st : S} {e : Ex}
    (r : Rel K mg J G0 H0 σ H ρ G st) (x : XRep K mg J e cls dd G H) : ∀ {hs : List Hc}, (∀ h ∈ hs, mg h.1 = some (mgv h.1)) → RPost K mg J G0 H0 W Dn (handle Γ e ρ st hs) → wNam K W Dn (hs.map (clsOf K mg flds mgv)) cls dd σ H := by
  intro hs
  induction hs with
  | nil => intro _ h; exact h cls dd σ H G r x
  | cons hc hs ih =>
    intro hm h
    obtain ⟨c, n, i, he⟩ := hc
    have hcm := hm _ List.mem_cons_self
    unfold handle at h
    obtain ⟨C, d, fs, m1, rfl, rfl, ed, rf⟩ := x
    cases q : Γ.sub e.cls c with
    | none => rw [q] at h; exact h.elim
    | some b =>
      obtain ⟨Ca, Cb, k1, k2, k3, k4, k5⟩ := sb _ _ _ q
      rw [k1] at m1
      cases m1
      have k2 : mgv c = .ref Cb := by
        have z := hcm
        rw [k2] at z
        exact (Option.some.inj z).symm
      refine ⟨b, by show PySem.W.exmOne K _ (mgv c) = _; rw [k2]; exact k3, fun hb a ha => ?_, fun hb => ?_⟩
      · subst hb
        rw [q] at h
        show tHd K mg flds n i (fun e => evH e he) a _ (some d) _ _ _
        cases q2 : evH e he with
        | none => rw [q2] at h; exact h.elim
        | some v0 =>
          rw [q2] at h
          have hn : n < ρ.length := by
            cases Nat.lt_or_ge n ρ.length with
            | inl z => exact z
            | inr z => simp only [if_neg (Nat.not_lt.mpr z)] at h; exact h.elim
          simp only [if_pos hn] at h
          have hl : i < ρ.length := by
            cases Nat.lt_or_ge i ρ.length with
            | inl z => exact z
            | inr z => simp only [if_neg (Nat.not_lt.mpr z)] at h; exact h.elim
          simp only [if_pos hl] at h
          refine ⟨J, G, e, st, v0, ?_, r.now.le, r.now.j, ⟨_, d, fs, rfl, k4, k5, rfl, ed, rf⟩, q2, fun v G1 H1 x1 j1 r1 => ?_⟩
          · rw [List.getElem?_set_self (by rw [r.now.s.len]; exact hn)]
          · have r2 := ((((r.blur n (some (.ref a))).go x1 j1).set (i := i) (by rw [List.length_set]; exact hl) r1).clear n)
            rw [set3 ρ] at r2
            exact h _ H1 G1 r2
      · subst hb
        rw [q] at h
        exact ih (fun h' hh => hm h' (List.mem_cons_of_mem _ hh)) h
theorem try_sD {K : PySem.W.Frag} {mg : MG} {flds : List Str} {Γ : Gam} (sb : Subs K mg flds Γ) {mgv : Str → Value} {W : WX} {Dn : Ends} {f : Env → S → RS} {hs : List Hc} {σ : L2.St} {H : Hp} (hm : ∀ h ∈ hs, mg h.1 = some (mgv h.1))
    (h : sD K mg W (fTry Γ f hs) Dn σ H) : sD K mg (wNam K W Dn (hs.map (clsOf K mg flds mgv))) f Dn σ H := by
  obtain ⟨J, G0, H0, G, ρ, st, r, h⟩ := h
  refine ⟨J, G0, H0, G, ρ, st, r, ?_⟩
  unfold fTry at h
  cases q : f ρ st with
  | err e ρ' st' =>
    rw [q] at h
    exact fun cls dd σ' H' G' r' x' => handle_wish sb r' x' hm h
  | nx ρ' st' => rw [q] at h; exact h
  | ret d st' => rw [q] at h; exact h
  | brk ρ' st' => rw [q] at h; exact h
  | cont ρ' st' => rw [q] at h; exact h
  | stuck => rw [q] at h; exact h
end DE
/-! From the program's text to the small language: statements -/
namespace DE
open PySem PySem.Spec PyProof.Rows L2
mutual
def cV : C → List Nat
  | .var i => [i] | .cst _ => []
  | .bin _ a b => cV a ++ cV b | .neg a => cV a | .not a => cV a
  | .cmp _ a b => cV a ++ cV b | .chain _ _ a b c => cV a ++ (cV b ++ cV c)
  | .and a b => cV a ++ cV b | .or a b => cV a ++ cV b | .ite c a b => cV c ++ (cV a ++ cV b)
  | .tup es => cVs es | .lst es => cVs es
  | .idx a i => cV a ++ cV i | .slc a l h => cV a ++ (cVo l ++ cVo h)
  | .call _ es => cVs es | .bi _ es => cVs es | .isi a _ => cV a
  | .meth _ o es => cV o ++ cVs es | .fld o _ => cV o
  | .comp e _ _ its ifs _ => cV e ++ (cVs its ++ cVs ifs)
def cVs : List C → List Nat
  | [] => []
  | e :: es => cV e ++ cVs es
def cVo : Option C → List Nat
  | none => []
  | some e => cV e
end
def rdS : CS → List Nat
  | .expr c => cV c | .set _ c => cV c | .par _ cs => cVs cs | .own _ c => cV c | .app _ c => cV c | .put _ k v => cV k ++ cV v | .jput j k v => cV j ++ (cV k ++ cV v)
  | .aug _ _ c => cV c | .ret c => cV c | .ite c _ _ => cV c | .loop _ _ its _ => cVs its | .raise _ es => cVs es
  | _ => []
def isComp : Expr → Bool
  | .ListComp .. => true | .SetComp .. => true | .DictComp .. => true
  | _ => false
def fnK (c : Ct) : Bool := (if c.sc.kind.isAnnotationScope then ScopeKind.function else c.sc.kind) == .function
def swB (c : Ct) (t : Str) (px : Pos) (scope : Scope) (pos : Pos) : Bool := fnK c && c.sc.names.lookup t == some .local && px.line == pos.line && !(scope.names.any fun (n, k) => n == t && (k == .local || k == .cell))
def isLocal (c : Ct) (x : Str) : Bool := match c.sc.names.lookup x with
  | some .local => true
  | _ => false
def appC (c : Ct) (f : Expr → Option C) (x m : Str) (px p1 p2 : Pos) (e : Expr) : Option CS :=
  if strB m "append" && (okName x && isVis c.sc x) && (!isStar e && (p1.endLine == p2.line)) then (ixOf x c.N).bind fun i => (f e).map fun e' => .app i e' else none
def oneHE (c : Ct) (nm : Str) : Nat → Expr → Option HE
  | 0, _ => none
  | n + 1, e => match e with
    | .Constant k _ _ => (cK k).map .cst
    | .Attribute (.Name y _) f _ => if strB y nm && decide (f ∈ c.T.flds) then some (.fld f) else none
    | .Tuple es _ _ => if noStars es && decide (es.length ≤ 1000000) then (mapO (oneHE c nm n) es).map .tup else none
    | _ => none
def cHds (c : Ct) (n : Nat) : List ExceptHandler → Option (List Hc)
  | [] => some []
  | .ExceptHandler (some (.Name x _)) (some nm) [.Assign [.Name t _] e _] _ :: r =>
    if okName x && isGl c.sc x && decide (x ∈ c.T.cls) && isLocal c nm && isLocal c t && okName nm then
      (ixOf nm c.N).bind fun i => (ixOf t c.N).bind fun j => (oneHE c nm n e).bind fun h => (cHds c n r).map fun r' => (x, i, j, h) :: r'
    else none
  | _ => none
def nmOf : Expr → Option Str
  | .Name x _ => some x
  | _ => none
/-- targets that are not names alone: no change of the stores' order -/
def noSwap (ts : List Expr) : Expr → Bool
  | .Tuple vs _ _ => ts.any isTup || vs.all (foldedForSure 8)
  | _ => true
mutual
def cS (c : Ct) (mu : List Nat) : Nat → Stmt → Option CS
  | 0, _ => none
  | n + 1, s => match s with
    | .Pass _ => some .pass
    | .Break _ => some .brk
    | .Continue _ => some .cont
    | .Return none _ => some .retN
    | .Return (some e) _ => (cE c n e).map .ret
    | .Expr (.Call (.Attribute (.Name x px) m p1) [e] [] p2) _ => appC c (cE c n) x m px p1 p2 e
    | .Expr e _ => if isComp e then none else (cE c n e).map .expr
    | .Assign [.Name t px] (.ListComp elt gens scope pos) _ =>
      if !isLoc c t then none else
      (cE c n (.ListComp elt gens scope pos)).bind fun e' => (ixOf t c.N).bind fun i =>
      if decide (i ∈ mu) then some (.own i e') else some (.set (.nm i) e')
    | .Assign [.Name t px] (.List es lp) _ =>
      if !isLoc c t then none else
      (cE c n (.List es lp)).bind fun e' => (ixOf t c.N).bind fun i =>
      if decide (i ∈ mu) then some (.own i e') else some (.set (.nm i) e')
    | .Assign [.Name t _] e _ =>
      if isComp e || !isLoc c t then none else
      (cE c n e).bind fun e' => (ixOf t c.N).bind fun i => if decide (i ∈ mu) then none else some (.set (.nm i) e')
    | .Assign [.Tuple [.Name x px, .Name y py] _ _] (.Tuple [a, b] _ _) _ =>
      if fnK c && isLocal c x && isLocal c y && (py.line == px.line) && !strB x y && noStars [a, b] && !([a, b].all (foldedForSure 8)) && !([a, b].all (constantsAlone 8)) then
        (ixOf x c.N).bind fun i => (ixOf y c.N).bind fun j => (mapO (cE c n) [a, b]).bind fun es => some (.par [i, j] es) else none
    | .Assign [.Tuple [.Name x px, .Name y py, .Name z pz] _ _] (.Tuple [a, b, d] _ _) _ =>
      if fnK c && isLocal c x && isLocal c y && isLocal c z && (py.line == px.line) && (pz.line == px.line) && !strB x y && !strB x z && !strB y z && noStars [a, b, d] && !([a, b, d].all (foldedForSure 8)) && !([a, b, d].all (constantsAlone 8)) then
        (ixOf x c.N).bind fun i => (ixOf y c.N).bind fun j => (ixOf z c.N).bind fun l => (mapO (cE c n) [a, b, d]).bind fun es => some (.par [i, j, l] es) else none
    | .Assign [.Tuple ts kk p] e _ =>
      if isComp e || !noSwap ts e then none else (cTg c n (.Tuple ts kk p)).bind fun t => (cE c n e).map fun e' => .set t e'
    | .Assign [.Subscript (.Name x px) k p1] e _ =>
      if isSlice k || isTup k then none else
      match (cVar c x).bind fun i => if decide (i ∈ mu) then some i else none with
      | some i => (cE c n k).bind fun k' => (cE c n e).map fun e' => .put i k' e'
      | none => (cE c n (.Name x px)).bind fun j => (cE c n k).bind fun k' => (cE c n e).map fun e' => .jput j k' e'
    | .AugAssign (.Name x _) o e _ => if !isLoc c x then none else (ixOf x c.N).bind fun i => (cE c n e).bind fun e' => match o with
      | .Add => some (.aug i .add e')
      | .Sub => some (.aug i .sub e')
      | _ => none
    | .If t a b _ => (cE c n t).bind fun t' => (cSs c mu n a).bind fun a' => (cSs c mu n b).map fun b' => .ite t' a' b'
    | .For tg iter body [] _ => (cIt c (cE c n) tg iter).bind fun it => (cTg c n tg).bind fun t => (cSs c mu n body).map fun b => .loop t it.1 it.2 b
    | .Raise (some (.Call (.Name x _) (e :: es) [] _)) none _ =>
      if okName x && isGl c.sc x && noStars (e :: es) then (c.T.exs.lookup x).bind fun fl => (mapO (cE c n) (e :: es)).map fun es' => .raise x es' else none
    | .Try body (h :: hds) [] [] _ => (cSs c mu n body).bind fun b => (cHds c n (h :: hds)).map fun hs => .trys b hs
    | _ => none
def cSs (c : Ct) (mu : List Nat) : Nat → List Stmt → Option (List CS)
  | 0, _ => none
  | _ + 1, [] => some []
  | n + 1, s :: r => (cS c mu n s).bind fun s' => (cSs c mu n r).bind fun r' => match mu.filter (fun i => decide (i ∈ rdS s')) with
    | [] => some (s' :: r')
    | is => some (.frz is :: s' :: r')
end
end DE
/-! .. and it means the same: statements -/
namespace DE
open PySem PySem.Spec PyProof.Rows L2
structure OkS (X : Cx) (mg : MG) (W : WX) (c : Ct) (Γ : Gam) : Prop extends OkX X mg W c Γ where
  hp : PassesOwn (model X.prog X.w) X.A X.env X.xe
  stk : X.stack = X.env :: X.outer
  frm : X.env.frame = some X.env.locals
  subs : Subs X.K mg c.T.flds Γ
  cls : ∀ x, x ∈ c.T.cls → ∃ C : Addr, X.mg x = some (.ref C)
section
variable {X : Cx} {mg : MG} {W : WX} {c : Ct} {Γ : Gam}
theorem OkS.tr (k : OkS X mg W c Γ) {W' : WX} {pn : List (Addr × Obj)} {xe : Value → Shared → Prop} (tk : Takes (X.tr pn xe) W') (hp : PassesOwn (model X.prog X.w) X.A X.env xe) : OkS (X.tr pn xe) mg W' c Γ where
  N := k.N
  nd := k.nd
  sc := k.sc
  calm := k.calm
  hu := k.hu
  gd := k.gd
  hmg := k.hmg
  tk := tk
  fnl := k.fnl
  fns := fun x n h => ⟨(k.fns x n h).ok⟩
  modes := fun m h => ⟨(k.modes m h).ok⟩
  csts := k.csts
  bis := k.bis
  gcd := k.gcd
  exs := fun x fl h => ⟨(k.exs x fl h).1, ⟨(k.exs x fl h).2.ok⟩⟩
  hp := hp
  stk := k.stk
  frm := k.frm
  subs := k.subs
  cls := k.cls
theorem swaps_no {e : Expr} (h : isComp e = false) (t : Option Expr) (l : Nat) (env : PySem.Env) : swapsWith e t l env = pure false := by
  cases e <;> first | rfl | cases h
theorem swaps_c (k : OkX X mg W c Γ) {elt : Expr} {gens : List Comprehension} {scope : Scope} {pos px : Pos} {t : Str} {l : Nat} : swapsWith (.ListComp elt gens scope pos) (some (.Name t px)) l X.env = pure (swB c t px scope pos) := by
  unfold swapsWith swB fnK
  simp only [Env.blockKind, Env.kindOf, k.sc]
  rfl
theorem _root_.L2.PS.eqF {s : Stmt} {f g : Env → S → RS} (h : PS X s (sD X.K mg W f)) (q : g = f) : PS X s (sD X.K mg W g) := q ▸ h
theorem isLocal_ok (k : OkX X mg W c Γ) {x : Str} (h : isLocal c x = true) : X.env.scope.names.lookup x = some .local := by
  rw [k.sc]
  unfold isLocal at h
  split at h
  · assumption
  · cases h
theorem attrB (x : Str) (p : Pos) (m : Str) (env : PySem.Env) : attributeBase (.Name x p) m env (eval (.Name x p) env) = eval (.Name x p) env := rfl
theorem sound_app (k : OkX X mg W c Γ) {f : Expr → Option C} (hf : ∀ e e', f e = some e' → PB X mg W e (ev Γ e')) {x m : Str} {px p1 p2 pos : Pos} {e : Expr} {s' : CS} (h : appC c f x m px p1 p2 e = some s') :
    PS X (.Expr (.Call (.Attribute (.Name x px) m p1) [e] [] p2) pos) (sD X.K mg W (evS Γ s')) := by
  unfold appC at h
  obtain ⟨h1, h⟩ := ify h
  simp only [Bool.and_eq_true, Bool.not_eq_true'] at h1
  obtain ⟨i, ei, h⟩ := bnd h
  obtain ⟨e', ee, rfl⟩ := mpd h
  have em := strB_ok h1.1.1
  subst em
  have z : evS Γ (.app i e') = fApp i (ev Γ e') := by funext ρ st; simp only [evS]; rfl
  rw [z]
  exact ps_appD (k.at_ ei) (k.vis h1.1.2.2) (okName_ok h1.1.2.1).1 (okName_ok h1.1.2.1).2 (hf _ _ ee).1 h1.2.1 (attrB _ _ _ _) h1.2.2
theorem sound_he (k : OkX X mg W c Γ) {nm : Str} {n : Nat} (hi : X.N[n]? = some nm) (hl : X.env.scope.names.lookup nm = some .local) (ho : okName nm = true) {a : Addr} {oe : Obj} {cls : Value} {d : Option Addr} {pn : List (Addr × Obj)} (hz : Zc cls d oe) (hf : ∃ vs, oe.data = .fields vs) :
    ∀ (m : Nat) {e : Expr} {h : HE}, oneHE c nm m e = some h → isComp e = false ∧ PE (X.suite a ((a, oe) :: pn)) e (tH X.K mg c.T.flds a cls d n fun x => evH x h) := by
  intro m
  induction m with
  | zero => intro e h q; simp [oneHE] at q
  | succ m ih =>
    intro e h q
    unfold oneHE at q
    split at q
    · obtain ⟨d0, ed, rfl⟩ := mpd q
      rename_i kk _ _
      have z : (fun x => evH x (.cst d0)) = fun _ => some d0 := by funext x; simp only [evH]
      rw [z]
      refine ⟨rfl, ?_⟩
      cases kk <;> cases ed
      · exact ph_cst pe_non fun _ _ => .non
      · exact ph_cst pe_bl fun _ _ => .bl _
      · exact ph_cst pe_int fun _ _ => .int _
      · exact ph_cst pe_str fun _ _ => .str _
    · split at q
      · rename_i hb
        cases q
        rw [Bool.and_eq_true, decide_eq_true_eq] at hb
        have ey := strB_ok hb.1
        subst ey
        have z : ∀ f, (fun x => evH x (.fld f)) = fun x : Ex => x.fs.lookup f := fun f => by funext x; simp only [evH]
        rw [z]
        exact ⟨rfl, ph_fld hz hf hi (.inl hl) (okName_ok ho).1 (okName_ok ho).2 hb.2⟩
      · cases q
    · obtain ⟨h1, q⟩ := ify q
      rw [Bool.and_eq_true, decide_eq_true_eq] at h1
      obtain ⟨hs, eh, rfl⟩ := mpd q
      have z : (fun x => evH x (.tup hs)) = fun x => (evHs x hs).map .tup := by funext x; simp only [evH]
      rw [z]
      have key : ∀ {es : List Expr} {hs : List HE}, noStars es = true → mapO (oneHE c nm m) es = some hs → hs.length = es.length ∧ PA (X.suite a ((a, oe) :: pn)) es (tHs X.K mg c.T.flds a cls d n fun x => evHs x hs) := by
        intro es
        induction es with
        | nil =>
          intro hs _ q
          cases q
          have z : (fun x => evHs x []) = fun _ => some [] := by funext x; simp only [evHs]
          rw [z]
          exact ⟨rfl, phs_nil⟩
        | cons b r ihr =>
          intro hs hst q
          unfold noStars at hst
          rw [List.all_cons, Bool.and_eq_true] at hst
          simp only [mapO] at q
          obtain ⟨b', e1, q⟩ := bnd q
          obtain ⟨bs, e2, q⟩ := bnd q
          cases q
          obtain ⟨l, p⟩ := ihr hst.2 e2
          have z : (fun x => evHs x (b' :: bs)) = fun x => (evH x b').bind fun y => (evHs x bs).map (y :: ·) := by funext x; simp only [evHs]
          rw [z]
          exact ⟨by simp [l], phs_cons (by simpa using hst.1) (ih e1).2 p⟩
      obtain ⟨l, p⟩ := key h1.1 eh
      exact ⟨rfl, ph_tup (by rw [l]; exact h1.2) p⟩
    · cases q
theorem sound_hds (k : OkS X mg W c Γ) {n : Nat} : ∀ {hds : List ExceptHandler} {hs : List Hc}, cHds c n hds = some hs → ClsOk X hds (hs.map (clsOf X.K mg c.T.flds fun x => (mg x).getD .none)) ∧ ∀ h ∈ hs, mg h.1 = some ((mg h.1).getD .none) := by
  intro hds
  induction hds with
  | nil => intro hs h; simp only [cHds] at h; cases h; exact ⟨.nil, fun h hh => by cases hh⟩
  | cons hd r ih =>
    intro hs h
    unfold cHds at h
    split at h
    · rename_i q; cases q
    · rename_i q
      cases q
      obtain ⟨h1, h⟩ := ify h
      simp only [Bool.and_eq_true, decide_eq_true_eq] at h1
      obtain ⟨⟨⟨⟨⟨h1, h2⟩, h3⟩, h4⟩, h5⟩, h6⟩ := h1
      obtain ⟨i, ei, h⟩ := bnd h
      obtain ⟨j, ej, h⟩ := bnd h
      obtain ⟨he, eh, h⟩ := bnd h
      obtain ⟨r2, er, rfl⟩ := mpd h
      obtain ⟨q1, q2⟩ := ih er
      obtain ⟨C, hC⟩ := k.cls _ h3
      have hC2 := hC
      rw [← k.hmg] at hC2
      refine ⟨?_, fun h hh => ?_⟩
      · refine .cons ⟨k.gl h2, (okName_ok h1).1, .inl ?_⟩ (k.at_ ei) (isLocal_ok k.toOkX h4) (fun a oe cls d pn hz hf => ?_) q1
        · show X.mg _ = some ((mg _).getD .none)
          rw [hC2]; exact hC
        · obtain ⟨c1, p⟩ := sound_he (pn := pn) k.toOkX (k.at_ ei) (isLocal_ok k.toOkX h4) h6 hz hf n eh
          exact ps_hd k.nd (k.at_ ej) (isLocal_ok k.toOkX h5) p (swaps_no c1 _ _ _)
      · rcases List.mem_cons.mp hh with rfl | hh
        · show mg _ = some ((mg _).getD .none)
          rw [hC2]; rfl
        · exact q2 h hh
    · cases h
theorem _root_.L2.PSs.eqF {s : List Stmt} {f g : Env → S → RS} (h : PSs X s (sD X.K mg W f)) (q : g = f) : PSs X s (sD X.K mg W g) := q ▸ h
theorem assign1 {e : Expr} (h : isStar e = false) : (assignEach [e] X.env).map (·.2) = [PySem.assign e X.env] := by
  cases e <;> first | rfl | cases h
theorem swapped_no {ts : List Expr} {kk : Nat} {p : Pos} {e : Expr} (h : isTup e = false) : swappedStores [.Tuple ts kk p] e X.env = pure none := by
  cases e <;> first | rfl | cases h
theorem fm_lt {α β : Type} {f : α → Option β} {p : α → Bool} (hf : ∀ a, p a = true → f a = none) : ∀ ts : List α, ts.any p = true → (ts.filterMap f).length < ts.length
  | a :: r, h => by
    have le := List.length_filterMap_le f r
    by_cases q : p a = true
    · rw [List.filterMap_cons, hf a q, List.length_cons]
      exact Nat.lt_succ_of_le le
    · rw [List.any_cons, Bool.or_eq_true] at h
      have ih := fm_lt hf r (h.resolve_left q)
      rw [List.filterMap_cons, List.length_cons]
      split
      · omega
      · rw [List.length_cons]; omega
theorem swapped_not {env : PySem.Env} {ts : List Expr} {kk : Nat} {p : Pos} {e : Expr} (h : noSwap ts e = true) : swappedStores [.Tuple ts kk p] e env = pure none := by
  cases e with
  | Tuple vs k2 p2 =>
    unfold swappedStores
    simp only [noSwap, Bool.or_eq_true] at h
    show (if _ then _ else _) = _
    split
    · rfl
    · show (if _ then _ else _) = _
      split
      · rfl
      · show (if _ then _ else _) = _
        split
        · rfl
        · rename_i hn
          show (if _ then _ else _) = _
          rcases h with h | h
          · exfalso
            apply hn
            rw [Bool.or_eq_true]
            left
            have lt := fm_lt (f := fun x => match x with
              | .Name id pos => if env.kindOf id == some .local && pos.line == (ts.head?.map (·.pos.line)).getD 0 then some id else none
              | _ => none) (p := isTup) (fun a q => by cases a <;> first | rfl | cases q) ts h
            rw [bne_iff_ne]
            exact fun e => Nat.ne_of_lt lt e
          · rw [if_pos h]
  | _ => rfl
theorem sound_set (k : OkS X mg W c Γ) {n : Nat} {t : Str} {px pos : Pos} {e : Expr} {e' : C} {i : Nat} (hl : isLoc c t = true) (ei : ixOf t c.N = some i) (he : PE X e (tD X.K mg W (ev Γ e'))) (hs : isComp e = false) :
    PS X (.Assign [.Name t px] e pos) (sD X.K mg W (evS Γ (.set (.nm i) e'))) := by
  have z : evS Γ (.set (.nm i) e') = fSet (.nm i) (ev Γ e') := by funext ρ st; simp only [evS]; rfl
  rw [z]
  obtain ⟨l1, l2⟩ := k.loc hl
  exact ps_setD k.nd (k.at_ ei) l1 l2 he (swaps_no hs _ _ _)
theorem own_lst {i : Nat} {c' : C} {f : Env → M (List D)} (h : ev Γ c' = fun ρ => M.bind (f ρ) fun ys => M.pure (.lst ys)) : evS Γ (.own i c') = fOwn i f := by
  funext ρ st
  simp only [evS, h, fOwn, M.bind]
  cases f ρ st <;> rfl
theorem set_lst {i : Nat} {c' : C} {f : Env → M (List D)} (h : ev Γ c' = fun ρ => M.bind (f ρ) fun ys => M.pure (.lst ys)) : evS Γ (.set (.nm i) c') = fSet (.nm i) fun ρ => M.bind (f ρ) fun ys => M.pure (.lst ys) := by
  funext ρ st
  simp only [evS, h]
  rfl
/-- name = [..] -/
theorem sound_lst (k : OkS X mg W c Γ) {n : Nat} {t : Str} {px pos lp : Pos} {es : List Expr} {e' : C} {i : Nat} (hl : isLoc c t = true) (ei : ixOf t c.N = some i) (he : cE c n (.List es lp) = some e') :
    PS X (.Assign [.Name t px] (.List es lp) pos) (sD X.K mg W (evS Γ (.own i e'))) := by
  cases n with
  | zero => simp [cE] at he
  | succ n =>
    simp only [cE] at he
    obtain ⟨h1, h⟩ := ify he
    rw [Bool.and_eq_true] at h1
    obtain ⟨es', e1, rfl⟩ := mpd h
    obtain ⟨ha, hl2⟩ := sound_args (fun e e' h => sound n k.toOkX h) h1.1 e1
    have z : evS Γ (.own i (.lst es')) = fOwn i (evs Γ es') := own_lst (by funext ρ; simp only [ev])
    rw [z]
    obtain ⟨l1, l2⟩ := k.loc hl
    exact ps_ownD k.nd (k.at_ ei) l1 l2 (pe_lstF ha fun ρ st ds st1 e => by rw [evs_len e, hl2]; exact of_decide_eq_true h1.2) (swaps_no rfl _ _ _)
/-- name = [.. for ..] -/
theorem sound_cmp (k : OkS X mg W c Γ) {n : Nat} {t : Str} {px pos cp : Pos} {elt : Expr} {gens : List Comprehension} {scope : Scope} {e' : C} {i : Nat} (hl : isLoc c t = true) (ei : ixOf t c.N = some i) (he : cE c n (.ListComp elt gens scope cp) = some e') :
    PS X (.Assign [.Name t px] (.ListComp elt gens scope cp) pos) (sD X.K mg W (evS Γ (.own i e'))) ∧ PS X (.Assign [.Name t px] (.ListComp elt gens scope cp) pos) (sD X.K mg W (evS Γ (.set (.nm i) e'))) := by
  cases n with
  | zero => simp [cE] at he
  | succ n =>
    unfold cE at he
    split at he
    all_goals (first | (rename_i q; cases q; done) | skip)
    · rename_i q
      cases q
      obtain ⟨h1, he⟩ := ifn he
      obtain ⟨it, e1, he⟩ := bnd he
      obtain ⟨tt, e2, he⟩ := bnd he
      obtain ⟨h2, he⟩ := ifn he
      obtain ⟨h3, he⟩ := ifn he
      obtain ⟨ifs', e3, he⟩ := bnd he
      obtain ⟨elt', e4, he⟩ := bnd he
      cases he
      obtain ⟨pf, ok, hv, ws, wi, tgs, tests, els⟩ := sound_comp k.toOkX (fun e e' h => sound n k.toOkX h) (fun k h => sound n k h) e1 h1 e2 h2 h3 e3 e4
      obtain ⟨l1, l2⟩ := k.loc hl
      rw [own_lst ev_comp, set_lst ev_comp]
      have sw : ∀ g, swapsWith (.ListComp elt g scope cp) (some (.Name t px)) pos.line X.env = pure (swB c t px scope cp) := fun g => swaps_c k.toOkX
      cases hb : swB c t px scope cp with
      | true =>
        rw [hb] at sw
        have hyl : X.env.scope.names.lookup t = some .local := by
          unfold swB at hb
          simp only [Bool.and_eq_true] at hb
          rw [k.sc]
          exact eq_of_beq hb.1.1.2
        exact ⟨ps_lcOwn k.calm k.nd (k.at_ ei) hyl (sw _) wi ok tgs tests els hv ws, ps_lcSet k.calm k.nd (k.at_ ei) hyl (sw _) wi ok tgs tests els hv ws⟩
      | false =>
        rw [hb] at sw
        exact ⟨ps_ownD k.nd (k.at_ ei) l1 l2 pf (sw _), ps_setD k.nd (k.at_ ei) l1 l2 (tF_D pf) (sw _)⟩
    · cases he
end
end DE
/-! .. the theorem for statements -/
namespace DE
open PySem PySem.Spec PyProof.Rows L2
theorem evSs_cons {Γ : Gam} {c : CS} {cs : List CS} : evSs Γ (c :: cs) = fSeq (evS Γ c) (evSs Γ cs) := by
  funext ρ st
  simp only [evSs, fSeq]
  all_goals rfl
theorem anyStar {es : List Expr} (h : noStars es = true) : (es.any fun | .Starred .. => true | _ => false) = false := by
  have e : (fun (e : Expr) => match e with | .Starred .. => true | _ => false) = isStar := by funext e; cases e <;> rfl
  rw [e]
  unfold noStars at h
  rw [List.all_eq_true] at h
  rw [List.any_eq_false]
  intro x hx
  simpa using h x hx
theorem swapped2 {X : Cx} {mg : MG} {W : WX} {c : Ct} {Γ : Gam} (k : OkX X mg W c Γ) {x y : Str} {px py p p2 : Pos} {kk k2 : Nat} {a b : Expr} (h1 : fnK c = true) (h2 : isLocal c x = true) (h3 : isLocal c y = true) (h4 : (py.line == px.line) = true) (h5 : strB x y = false) (h6 : noStars [a, b] = true)
    (h7 : ([a, b].all (foldedForSure 8)) = false) (h8 : ([a, b].all (constantsAlone 8)) = false) : swappedStores [.Tuple [.Name x px, .Name y py] kk p] (.Tuple [a, b] k2 p2) X.env = pure (some [x, y]) := by
  have e1 := isLocal_ok k h2
  have e2 := isLocal_ok k h3
  have e3 : (X.env.blockKind != .function) = false := by
    have z : (if X.env.scope.kind.isAnnotationScope then ScopeKind.function else X.env.scope.kind) = .function := by
      rw [k.sc]
      exact eq_of_beq h1
    show ((if X.env.scope.kind.isAnnotationScope then ScopeKind.function else X.env.scope.kind) != .function) = false
    rw [z]; rfl
  have hxy : x ≠ y := fun e => by subst e; simp [strB] at h5
  have hst := anyStar h6
  unfold swappedStores
  simp only [e3, hst, Env.kindOf, Expr.pos]
  have e4 : py.line = px.line := eq_of_beq h4
  have hxy' : (y == x) = false := by simpa using fun e => hxy e.symm
  have hxy2 : (x == y) = false := by simpa using hxy
  simp only [List.any_cons, List.any_nil, Bool.or_false] at hst
  simp [e1, e2, e4, h7, h8, List.eraseDups_cons, hxy, hxy', hxy2]
  intro z
  rw [Bool.or_eq_false_iff] at hst
  rcases z with z | z
  · exact absurd (z.symm.trans hst.1) (by decide)
  · exact absurd (z.symm.trans hst.2) (by decide)
theorem swapped3 {X : Cx} {mg : MG} {W : WX} {c : Ct} {Γ : Gam} (k : OkX X mg W c Γ) {x y w : Str} {px py pz p p2 : Pos} {kk k2 : Nat} {a b d : Expr} (h1 : fnK c = true) (h2 : isLocal c x = true) (h3 : isLocal c y = true) (h3' : isLocal c w = true) (h4 : (py.line == px.line) = true) (h4' : (pz.line == px.line) = true)
    (h5 : strB x y = false) (h5' : strB x w = false) (h5'' : strB y w = false) (h6 : noStars [a, b, d] = true)
    (h7 : ([a, b, d].all (foldedForSure 8)) = false) (h8 : ([a, b, d].all (constantsAlone 8)) = false) : swappedStores [.Tuple [.Name x px, .Name y py, .Name w pz] kk p] (.Tuple [a, b, d] k2 p2) X.env = pure (some [x, y, w]) := by
  have e1 := isLocal_ok k h2
  have e2 := isLocal_ok k h3
  have e2' := isLocal_ok k h3'
  have e3 : (X.env.blockKind != .function) = false := by
    have z : (if X.env.scope.kind.isAnnotationScope then ScopeKind.function else X.env.scope.kind) = .function := by
      rw [k.sc]
      exact eq_of_beq h1
    show ((if X.env.scope.kind.isAnnotationScope then ScopeKind.function else X.env.scope.kind) != .function) = false
    rw [z]; rfl
  have hxy : x ≠ y := fun e => by subst e; simp [strB] at h5
  have hxw : x ≠ w := fun e => by subst e; simp [strB] at h5'
  have hyw : y ≠ w := fun e => by subst e; simp [strB] at h5''
  have hst := anyStar h6
  unfold swappedStores
  simp only [e3, hst, Env.kindOf, Expr.pos]
  have e4 : py.line = px.line := eq_of_beq h4
  have e5 : pz.line = px.line := eq_of_beq h4'
  simp only [List.any_cons, List.any_nil, Bool.or_false] at hst
  simp [e1, e2, e2', e4, e5, h7, h8, List.eraseDups_cons, hxy, hxw, hyw, Ne.symm hxy, Ne.symm hxw, Ne.symm hyw]
  intro z
  simp only [Bool.or_eq_false_iff] at hst
  rcases z with z | z | z
  · exact absurd (z.symm.trans hst.1) (by decide)
  · exact absurd (z.symm.trans hst.2.1) (by decide)
  · exact absurd (z.symm.trans hst.2.2) (by decide)
theorem isSub_no {t : Expr} {x : Expr} {k : Expr} {p : Pos} (h : t = .Subscript x k p) : ∀ n q, t ≠ .Name n q := by
  subst h
  intro n q z
  cases z
theorem soundS {mg : MG} {Γ : Gam} {mu : List Nat} : ∀ (n : Nat) {X : Cx} {W : WX} {c : Ct}, OkS X mg W c Γ → (∀ s s', cS c mu n s = some s' → PS X s (sD X.K mg W (evS Γ s'))) ∧ (∀ ss ss', cSs c mu n ss = some ss' → PSs X ss (sD X.K mg W (evSs Γ ss'))) := by
  intro n
  induction n with
  | zero => intro X W c k; exact ⟨fun s s' h => by simp [cS] at h, fun s s' h => by simp [cSs] at h⟩
  | succ n ih =>
    intro X W c k
    have ihE : ∀ e e', cE c n e = some e' → PB X mg W e (ev Γ e') := fun e e' h => sound n k.toOkX h
    refine ⟨fun s s' h => ?_, fun ss ss' h => ?_⟩
    · unfold cS at h
      split at h
      · cases h
        exact ps_passD.eqF (by funext ρ st; simp only [evS])
      · cases h
        exact ps_brkD.eqF (by funext ρ st; simp only [evS])
      · cases h
        exact ps_contD.eqF (by funext ρ st; simp only [evS])
      · cases h
        exact ps_retND.eqF (by funext ρ st; simp only [evS])
      · obtain ⟨e', ee, rfl⟩ := mpd h
        exact (ps_retD (ihE _ _ ee).1).eqF (by funext ρ st; simp only [evS])
      · exact sound_app k.toOkX ihE h
      · obtain ⟨h1, h⟩ := ifn h
        obtain ⟨e', ee, rfl⟩ := mpd h
        exact (ps_exprD (ihE _ _ ee).1 (swaps_no h1 _ _ _)).eqF (by funext ρ st; simp only [evS])
      · obtain ⟨h1, h⟩ := ifn h
        obtain ⟨e', ee, h⟩ := bnd h
        obtain ⟨i, ei, h⟩ := bnd h
        obtain ⟨q1, q2⟩ := sound_cmp (pos := ‹_›) k (by simpa using h1) ei ee
        split at h <;> cases h
        · exact q1
        · exact q2
      · obtain ⟨h1, h⟩ := ifn h
        obtain ⟨e', ee, h⟩ := bnd h
        obtain ⟨i, ei, h⟩ := bnd h
        split at h <;> cases h
        · exact sound_lst k (by simpa using h1) ei ee
        · exact sound_set (n := n) k (by simpa using h1) ei (ihE _ _ ee).1 rfl
      · obtain ⟨h1, h⟩ := ifn h
        rw [Bool.or_eq_false_iff] at h1
        obtain ⟨e', ee, h⟩ := bnd h
        obtain ⟨i, ei, h⟩ := bnd h
        split at h <;> cases h
        exact sound_set (n := n) k (by simpa using h1.2) ei (ihE _ _ ee).1 h1.1
      · obtain ⟨h1, h⟩ := ify h
        simp only [Bool.and_eq_true, Bool.not_eq_true'] at h1
        obtain ⟨⟨⟨⟨⟨⟨⟨a1, a2⟩, a3⟩, a4⟩, a5⟩, a6⟩, a7⟩, a8⟩ := h1
        obtain ⟨i, ei, h⟩ := bnd h
        obtain ⟨j, ej, h⟩ := bnd h
        obtain ⟨es, ees, h⟩ := bnd h
        cases h
        obtain ⟨ha, _⟩ := sound_args ihE a6 ees
        have hij : i ≠ j := fun e => by
          subst e
          have := (k.at_ ei).symm.trans (k.at_ ej)
          cases this
          simp [strB] at a5
        refine (ps_par2D k.calm k.nd (k.at_ ei) (k.at_ ej) hij (isLocal_ok k.toOkX a2) (isLocal_ok k.toOkX a3) ha (swapped2 k.toOkX a1 a2 a3 a4 a5 a6 a7 a8)).eqF ?_
        funext ρ st; simp only [evS]; rfl
      · obtain ⟨h1, h⟩ := ify h
        simp only [Bool.and_eq_true, Bool.not_eq_true'] at h1
        obtain ⟨⟨⟨⟨⟨⟨⟨⟨⟨⟨⟨a1, a2⟩, a3⟩, a3'⟩, a4⟩, a4'⟩, a5⟩, a5'⟩, a5''⟩, a6⟩, a7⟩, a8⟩ := h1
        obtain ⟨i, ei, h⟩ := bnd h
        obtain ⟨j, ej, h⟩ := bnd h
        obtain ⟨l, el, h⟩ := bnd h
        obtain ⟨es, ees, h⟩ := bnd h
        cases h
        obtain ⟨ha, _⟩ := sound_args ihE a6 ees
        have ne : ∀ {i j : Nat} {x y : Str}, ixOf x c.N = some i → ixOf y c.N = some j → strB x y = false → i ≠ j := fun {i j x y} ei ej a5 e => by
          subst e
          have := (k.at_ ei).symm.trans (k.at_ ej)
          cases this
          simp [strB] at a5
        refine (ps_par3D k.calm k.nd (k.at_ ei) (k.at_ ej) (k.at_ el) (ne ei ej a5) (ne ei el a5') (ne ej el a5'') (isLocal_ok k.toOkX a2) (isLocal_ok k.toOkX a3) (isLocal_ok k.toOkX a3') ha (swapped3 k.toOkX a1 a2 a3 a3' a4 a4' a5 a5' a5'' a6 a7 a8)).eqF ?_
        funext ρ st; simp only [evS]; rfl
      · obtain ⟨h1, h⟩ := ifn h
        rw [Bool.or_eq_false_iff] at h1
        obtain ⟨t, et, h⟩ := bnd h
        obtain ⟨e', ee, rfl⟩ := mpd h
        refine (ps_asgD (ihE _ _ ee).1 ((ge_nm k.toOkX n).1 _ _ et) (swaps_other (fun _ _ z => nomatch z)) (swapped_not (by simpa using h1.2)) rfl).eqF ?_
        funext ρ st; simp only [evS]; rfl
      · obtain ⟨h1, h⟩ := ifn h
        rw [Bool.or_eq_false_iff] at h1
        split at h
        · rename_i i hv
          obtain ⟨i', ei, hv⟩ := bnd hv
          obtain ⟨k', ek, h⟩ := bnd h
          obtain ⟨e', ee, rfl⟩ := mpd h
          have hi : i' = i := by
            split at hv
            · exact Option.some.inj hv
            · cases hv
          subst hi
          unfold cVar at ei
          obtain ⟨h3, h4⟩ := ify ei
          rw [Bool.and_eq_true] at h3
          refine (ps_putD (k.at_ h4) (k.vis h3.2) (okName_ok h3.1).1 (okName_ok h3.1).2 (ihE _ _ ek).1 (ihE _ _ ee).1 h1.1).eqF ?_
          funext ρ st; simp only [evS]; rfl
        · obtain ⟨j', ej, h⟩ := bnd h
          obtain ⟨k', ek, h⟩ := bnd h
          obtain ⟨e', ee, rfl⟩ := mpd h
          refine (ps_jputD (ihE _ _ ej).1 (ihE _ _ ek).1 (ihE _ _ ee).1 h1.1).eqF ?_
          funext ρ st; simp only [evS]; rfl
      · obtain ⟨h1, h⟩ := ifn h
        obtain ⟨i, ei, h⟩ := bnd h
        obtain ⟨e', ee, h⟩ := bnd h
        obtain ⟨l1, l2⟩ := k.loc (show isLoc c _ = true by simpa using h1)
        split at h <;> cases h
        · refine (ps_augD (o := .add) (.inl rfl) k.nd (k.at_ ei) l1 l2 (ihE _ _ ee).1).eqF ?_
          funext ρ st; simp only [evS]; rfl
        · refine (ps_augD (o := .sub) (.inr rfl) k.nd (k.at_ ei) l1 l2 (ihE _ _ ee).1).eqF ?_
          funext ρ st; simp only [evS]; rfl
      · obtain ⟨t', et, h⟩ := bnd h
        obtain ⟨a', ea, h⟩ := bnd h
        obtain ⟨b', eb, rfl⟩ := mpd h
        refine (ps_ifD (ihE _ _ et).2 ((ih k).2 _ _ ea) ((ih k).2 _ _ eb)).eqF ?_
        funext ρ st; simp only [evS]; rfl
      · obtain ⟨it, ei, h⟩ := bnd h
        obtain ⟨t, et, h⟩ := bnd h
        obtain ⟨b, eb, rfl⟩ := mpd h
        obtain ⟨wi, ws⟩ := sound_it k.toOkX ihE ei
        refine (ps_forD k.hp k.calm wi ((ge_nm k.toOkX n).1 _ _ et) ((ih k).2 _ _ eb) ws).eqF ?_
        funext ρ st
        simp only [evS, fLoop, M.bind]
        cases evs Γ it.2 ρ st with
        | ok ds st1 =>
          simp only [bindS, Res.bind]
          cases itemsD it.1 ds <;> rfl
        | err _ _ => rfl
        | stuck => rfl
      · obtain ⟨h1, h⟩ := ify h
        rw [Bool.and_eq_true, Bool.and_eq_true] at h1
        obtain ⟨fl, ef, h⟩ := bnd h
        obtain ⟨es', ee, rfl⟩ := mpd h
        obtain ⟨ha, _⟩ := sound_args ihE h1.2 ee
        obtain ⟨x1, x2⟩ := k.exs _ _ ef
        have hs := h1.2
        unfold noStars at hs
        rw [List.all_cons, Bool.and_eq_true] at hs
        refine (ps_raiseD k.calm k.tk x2 k.hmg (by simpa using hs.1) hs.2 ha (k.gl h1.1.2)).eqF ?_
        funext ρ st
        simp only [evS, fRaise, x1]
        rfl
      · obtain ⟨b, eb, h⟩ := bnd h
        obtain ⟨hs, eh, rfl⟩ := mpd h
        obtain ⟨cl, hm⟩ := sound_hds k eh
        refine PS.of (ps_try_named (tb := fun W => sD X.K mg W (evSs Γ b)) k.stk k.frm k.nd k.tk (fun W' pn xe tk hp => (ih (k.tr tk hp)).2 _ _ eb) cl) fun Dn σ H q => ?_
        refine try_sD k.subs hm ?_
        have z : evS Γ (.trys b hs) = fTry Γ (evSs Γ b) hs := by funext ρ st; simp only [evS, fTry] <;> rfl
        rw [z] at q
        exact q
      · cases h
    · cases ss with
      | nil =>
        simp only [cSs] at h
        cases h
        exact pss_nilD.eqF (by funext ρ st; simp only [evSs])
      | cons s r =>
        simp only [cSs] at h
        obtain ⟨s1, e1, h⟩ := bnd h
        obtain ⟨r1, e2, h⟩ := bnd h
        have p := pss_consD ((ih k).1 _ _ e1) ((ih k).2 _ _ e2)
        split at h <;> cases h
        · rw [evSs_cons]; exact p
        · rw [evSs_cons, evSs_cons]
          refine (pss_frz (is := mu.filter fun i => decide (i ∈ rdS s1)) p).eqF ?_
          funext ρ st
          simp only [evS, fSeq]
end DE
/-! An own error whose __init__ calls super().__init__ and then keeps its arguments as fields -/
namespace DE
open PySem PySem.W PySem.Calls PyProof.Rows PySem.HandSPX PySem.Spec
def namesB : List Str → List Expr → Bool
  | [], [] => true
  | f :: fs, .Name x _ :: es => decide (x = f) && !(x == ("__debug__" : Str)) && namesB fs es
  | _, _ => false
def storesB : List Str → List Stmt → Bool
  | [], [] => true
  | f :: fs, .Assign [.Attribute (.Name s _) g _] (.Name x _) _ :: r => decide (s = "self") && decide (g = f) && decide (x = f) && !(x == ("__debug__" : Str)) && storesB fs r
  | _, _ => false
def superB (fs : List Str) : List Stmt → Bool
  | .Expr (.Call (.Attribute (.Call (.Name s _) [] [] _) i ap) es [] cp) _ :: ss => decide (s = "super") && decide (i = "__init__") && (ap.endLine == cp.line) && namesB fs es && storesB fs ss
  | _ => false
def scopeB (fs : List Str) (sc : Scope) : Bool :=
  (match sc.kind with | .function => true | _ => false) && !sc.isCoroutine && !sc.isGenerator && ((("self" : Str) :: fs).all fun x => decide (sc.names.lookup x = some NameKind.local)) && decide (sc.names.lookup ("super" : Str) = some .globalImplicit) &&
    decide (sc.names.lookup ("__class__" : Str) = some .free) && (sc.names.all fun y => decide (y.2 ≠ .cell)) && decide ((("self" : Str) :: fs).Nodup) && !fs.isEmpty
structure ErrT (P : Program) (K : Frag) (C fI cc cda : Addr) (flds : List Str) : Prop where
  cls : ∃ nm q N bs bm sn sub ab col dd k0 k1 k2 k3 k5, K.lookup C = some (excClassObj nm q C N bs bm true sn sub ab col dd k0 k1 k2 k3 k5 "ValueError.__new__") ∧ refsVE bm = true
  sa : findIn K (.ref C) "__setattr__" = some (some (.builtin "object.__setattr__"))
  noN : ∀ f ∈ flds, findIn K (.ref C) f = some none
  iC : findIn K (.ref C) "__init__" = some (some (.ref fI))
  tI : typeIn K (.ref fI) = some (.type "function")
  kC : keepIn K (.ref C) = true
  exC : subIn K (.ref C) (.type "BaseException") = some true
  vaC : subIn K (.ref C) (.type "ValueError") = some true
  ccC : mroIn K C (.ref C) = some true
  tyC : typeIn K (.ref C) = some (.type "type")
  fn : ∃ oc od dV kV doc pm an ct osl qual params body scope ar, K.lookup fI = some ⟨oc, od, .func (ksFn "__init__" qual params body scope dV kV doc pm an (.ref cda) ct cc), osl⟩ ∧ codeIn K (.ref cda) qual = true ∧ superB flds body = true ∧ scopeB flds scope = true ∧
    (params.posonlyargs ++ params.args).head? = some ar ∧ ar.arg = ("self" : Str) ∧ ∀ us : List Value, us.length = flds.length + 1 → bindArgs (ksFn "__init__" qual params body scope dV kV doc pm an (.ref cda) ct cc) ⟨us, []⟩ = pure ((("self" : Str) :: flds).zip us)
  cell : ∃ cl cld csl, K.lookup cc = some ⟨cl, cld, .cell (some (.ref C)), csl⟩
  code : ∃ ccl cdd vs ccs tf, K.lookup cda = some ⟨ccl, cdd, .fields vs, ccs⟩ ∧ vs[2]? = some (.str P.main.file tf)
  stat : nsIn K cStatics "thirdparty.any" = some none
  ini : ks_superIn K C C "__init__" = some (some (.builtin "ValueError.__init__"))
  top : (P.main.scope.names.lookup ("super" : Str)).isSome = false
section
variable {prog : Program} {w : World} {A : Around} {E : Value → Shared → Prop} {s : Shared} {K : Frag}
/-- the method-wrapper, called -/
theorem call_mw {C N e t0 u : Addr} {nm q : Str} {bs bm : List Value} {hdct : Bool} {sn : List Str} {sub : List Value} {ab : Bool} {col : Option Bool} {dd : Option Addr} {k0 k1 k2 k3 k5 : Option Value} {rest : List Value} {Q : Value → Shared → Prop}
    (hu : s.heap.get? u = some (kxs_mw "ValueError.__init__" e)) (hC : s.heap.get? C = some (excClassObj nm q C N bs bm hdct sn sub ab col dd k0 k1 k2 k3 k5 "ValueError.__new__")) (hbm : refsVE bm = true) (he : s.heap.get? e = some (excO C t0)) (hrest : rest.length ≤ sizeLine)
    (hq : ∀ h' t1, (∀ b o, b ≠ e → s.heap.get? b = some o → h'.get? b = some o) → h'.get? e = some (excO C t1) → Q .none { s with heap := h' }) :
    wpAny (model prog w) A (call (.ref u) rest) Q E s := by
  obtain ⟨hh, g, d, tk, os⟩ := s
  refine wpAny_call (codeAny_of_tree ?_)
  show wpAny _ A.in1 (callAny (.ref u) ⟨rest, []⟩) _ _ _
  simp only [callAny]
  refine wpAny_bind (wpAny_load hu ?_)
  simp only [kxs_mw, show (Value.type "method-wrapper" == Value.type "method" || Value.type "method-wrapper" == Value.type "builtin_function_or_method" || Value.type "method-wrapper" == Value.type "method-wrapper") = true by decide, if_true]
  refine KFB.if_so (by decide) ?_
  refine wpAny_bind (check_bound_init F.excBase_ValueError.toExcCallFacts hC he rfl ?_)
  refine wpAny_bind (wpAny_pure (wpAny_pure ?_))
  refine ⟨plainId_quiet F.excBase_ValueError.init.plain _, codeAny_builtin F.excBase_ValueError.initEntry ?_⟩
  exact exc_init_tree (cls := .ref C) (t0 := t0) (dv := none) (c2 := .none) (c3 := .none) (b4 := .bool false) he hrest fun h' k e' t' => hq h' _ k e'
theorem lookup_out {α : Type} {f : Str} : ∀ {ns : List Str} {vs : List α}, f ∉ ns → (ns.zip vs).lookup f = none
  | [], _, _ => rfl
  | n :: ns, [], _ => rfl
  | n :: ns, v :: vs, h => by
    rw [List.zip_cons_cons, List.lookup_cons]
    have e : (f == n) = false := by simpa using fun z => h (by rw [z]; exact List.mem_cons_self)
    rw [e]
    exact lookup_out fun z => h (List.mem_cons_of_mem _ z)
theorem lrev {α : Type} {f : Str} : ∀ {ns : List Str} {vs : List α}, ns.Nodup → (ns.zip vs).reverse.lookup f = (ns.zip vs).lookup f
  | [], _, _ => rfl
  | n :: ns, [], _ => rfl
  | n :: ns, v :: vs, h => by
    rw [List.zip_cons_cons, List.reverse_cons, List.lookup_append, lrev (List.nodup_cons.mp h).2, List.lookup_cons]
    by_cases q : f = n
    · subst q
      rw [lookup_out (List.nodup_cons.mp h).1]
      simp [List.lookup]
    · have e : (f == n) = false := by simpa using q
      rw [e]
      simp [List.lookup, e]
theorem zlook {α : Type} : ∀ {ns : List Str} {vs : List α} {i : Nat} {n : Str} {v : α}, ns.Nodup → ns[i]? = some n → vs[i]? = some v → (ns.zip vs).lookup n = some v
  | [], _, i, n, v, _, h, _ => by simp at h
  | m :: ns, [], i, n, v, _, _, h => by simp at h
  | m :: ns, u :: vs, 0, n, v, _, h1, h2 => by
    simp at h1 h2
    subst h1 h2
    simp [List.lookup]
  | m :: ns, u :: vs, i + 1, n, v, hd, h1, h2 => by
    rw [List.zip_cons_cons, List.lookup_cons]
    have hn : n ∈ ns := List.mem_of_getElem? (by simpa using h1)
    have e : (n == m) = false := by simpa using fun z => (List.nodup_cons.mp hd).1 (by rw [← z]; exact hn)
    rw [e]
    exact zlook (List.nodup_cons.mp hd).2 (by simpa using h1) (by simpa using h2)
/-- the names of a row, read -/
theorem names_run {fd : FuncData} {L a : Addr} {m : Str → Option Value} {pos : Pos} {M : Model} (hk : fd.scope.kind = .function) (hn : s.heap.Ns L m) {Q : List Value → Shared → Prop} : ∀ {fs : List Str} {es : List Expr} {vs : List Value}, namesB fs es = true → vs.length = fs.length → (∀ f ∈ fs, fd.scope.names.lookup f = some NameKind.local) → (∀ (i : Nat) f v, fs[i]? = some f → vs[i]? = some v → m f = some v) → Q vs s →
    wpAny M A (spliced (backTo pos (starEach es (callEnv fd L a)))) Q E s := by
  intro fs
  induction fs generalizing Q with
  | nil =>
    intro es vs h hl _ _ q
    cases es with
    | nil =>
      cases vs with
      | nil => exact wpAny_pure q
      | cons _ _ => cases hl
    | cons _ _ => cases h
  | cons f fs ih =>
    intro es vs h hl hloc hm q
    cases es with
    | nil => cases h
    | cons e es =>
      cases e with
      | Name x p =>
        simp only [namesB, Bool.and_eq_true, decide_eq_true_eq, Bool.not_eq_true'] at h
        obtain ⟨⟨rfl, hd⟩, h⟩ := h
        cases vs with
        | nil => cases hl
        | cons v vs =>
          show wpAny _ _ (spliced ((false, eval (.Name x p) (callEnv fd L a)) :: backTo pos (starEach es (callEnv fd L a)))) _ _ s
          refine Calls.spliced_cons (ldc hk (hloc x List.mem_cons_self) hn (hm 0 x v rfl rfl) ?_ hd)
          exact ih h (by simpa using hl) (fun f hf => hloc f (List.mem_cons_of_mem _ hf)) (fun i f v h1 h2 => hm (i + 1) f v (by simpa using h1) (by simpa using h2)) q
      | _ => exact absurd h (by simp [namesB])
/-- the exception with some fields kept -/
def XAt (hp : Heap) (x C t1 base : Addr) (acc : List (Str × Value)) : Prop :=
  (acc = [] ∧ hp.get? x = some (excO C t1)) ∨ ∃ dx, base ≤ dx ∧ dx ≠ x ∧ hp.get? x = some { cls := .ref C, dict := some dx, data := .fields #[.ref t1, .none, .none, .none, .bool false, .none] } ∧ hp.Ns1 dx fun y => acc.lookup y
theorem within_look0 {α : Type} : ∀ {acc : List (Str × α)} (y : Str), acc.lookup y ≠ none → y ∈ acc.map (·.1) := by
  intro acc
  induction acc with
  | nil => intro y h; exact absurd rfl h
  | cons p r ih =>
    intro y h
    rw [List.lookup_cons] at h
    cases q : y == p.1 with
    | true => rw [eq_of_beq q]; exact List.mem_cons_self
    | false => rw [q] at h; exact List.mem_cons_of_mem _ (ih y h)
theorem within_look {acc : List (Str × Value)} : Within (fun y => acc.lookup y) (acc.map (·.1)) := fun y h => within_look0 y h
theorem stores_run {fd : FuncData} {L a x C t1 : Addr} {m : Str → Option Value} {h0 : Heap} {nm q : Str} {N : Addr} {bs bm : List Value} {sn : List Str} {sub : List Value} {ab : Bool} {col : Option Bool} {dd : Option Addr} {k0 k1 k2 k3 k5 : Option Value}
    (hk : fd.scope.kind = .function) (hC : K.lookup C = some (excClassObj nm q C N bs bm true sn sub ab col dd k0 k1 k2 k3 k5 "ValueError.__new__")) (hbm : refsVE bm = true) (sa : findIn K (.ref C) "__setattr__" = some (some (.builtin "object.__setattr__"))) (hself : fd.scope.names.lookup ("self" : Str) = some NameKind.local) (hms : m "self" = some (.ref x)) (hnx : K.lookup x = none) (hLx : L ≠ x) (hKb : ∀ b o, K.lookup b = some o → b < h0.objs.size)
    {Q : Flow → Shared → Prop} : ∀ {fs : List Str} {ss : List Stmt} {vs : List Value} {acc : List (Str × Value)} {s : Shared}, storesB fs ss = true → vs.length = fs.length → acc.length + fs.length ≤ 1000 → (∀ f ∈ fs, fd.scope.names.lookup f = some NameKind.local) → (∀ f ∈ fs, findIn K (.ref C) f = some none) → (∀ (i : Nat) f v, fs[i]? = some f → vs[i]? = some v → m f = some v) →
      K.In s.heap → s.heap.Ns L m → L < h0.objs.size → (∀ b o, b ≠ x → h0.get? b = some o → s.heap.get? b = some o) → h0.objs.size ≤ s.heap.objs.size → XAt s.heap x C t1 h0.objs.size acc →
      (∀ h' tk, (∀ b o, b ≠ x → h0.get? b = some o → h'.get? b = some o) → XAt h' x C t1 h0.objs.size ((fs.zip vs).reverse ++ acc) → Q .next { s with heap := h', toks := tk }) →
      wpAny (model prog w) A (execs ss (callEnv fd L a)) Q E s := by
  have hcl : clsIn K C = some { name := nm, bases := bs, mro := .ref C :: bm, ns := N, qualname := q, hasDict := true, slotNames := sn, subclasses := sub, abstract := ab, collection := col, hasDel := false } := by unfold clsIn; rw [hC] <;> rfl
  intro fs
  induction fs with
  | nil =>
    intro ss vs acc s h hl _ _ _ _ X hn _ k _ xa hq
    cases ss with
    | nil => exact wpAny_execs_nil (hq s.heap s.toks k (by simpa using xa))
    | cons _ _ => cases h
  | cons f fs ih =>
    intro ss vs acc s h hl hz hloc hno hm X hn hL2 k hsz xa hq
    cases ss with
    | nil => cases h
    | cons st ss =>
      unfold storesB at h
      split at h
      all_goals (first | (rename_i z _; cases z; done) | (rename_i z; cases z; done) | skip)
      · rename_i z1 z2
        cases z1
        cases z2
        rename_i p1 g p2 y p3 p4
        simp only [Bool.and_eq_true, decide_eq_true_eq, Bool.not_eq_true'] at h
        obtain ⟨⟨⟨⟨e1, e2⟩, e3⟩, hd⟩, h⟩ := h
        subst e1
        have e4 : y = g := e3.trans e2.symm
        subst e4
        subst e2
        cases vs with
        | nil => cases hl
        | cons v vs =>
          have hnf := hno y List.mem_cons_self
          have go : ∀ (h' : Heap) (tk : Nat), (∀ b o, b ≠ x → h0.get? b = some o → h'.get? b = some o) → K.In h' → h'.Ns L m → h0.objs.size ≤ h'.objs.size → XAt h' x C t1 h0.objs.size ((y, v) :: acc) →
              wpAny (model prog w) A (execs ss (callEnv fd L a)) Q E { s with heap := h', toks := tk } := fun h' tk k' X' n' z' xa' =>
            ih h (by simpa using hl) (by simp only [List.length_cons] at hz ⊢; omega) (fun f hf => hloc f (List.mem_cons_of_mem _ hf)) (fun f hf => hno f (List.mem_cons_of_mem _ hf)) (fun i f u h1 h2 => hm (i + 1) f u (by simpa using h1) (by simpa using h2)) X' n' hL2 k' z' xa'
              fun h2 tk2 k2 x2 => hq h2 tk2 k2 (by simpa using x2)
          have zz : ∀ acc : List (Str × Value), (fun z => List.lookup z ((y, v) :: acc)) = fun z => if z = y then some v else List.lookup z acc := fun acc => by
            funext z
            rw [List.lookup_cons]
            by_cases q : z = y
            · rw [if_pos q, q]; simp
            · have e : (z == y) = false := by simpa using q
              rw [if_neg q, e]
          refine wpAny_execs_cons (plainObj_wpAny_Assign_Attribute ?_)
          refine ldc hk (hloc _ List.mem_cons_self) hn (hm 0 y v rfl rfl) (ldc hk hself hn hms ?_ (by decide)) hd
          obtain ⟨hp, g, d, tk, os⟩ := s
          have hsz : h0.objs.size ≤ hp.objs.size := hsz
          rcases xa with ⟨ea, hx⟩ | ⟨dx, b1, b2, hx, hns⟩
          · subst ea
            refine set_plain X (ox := excO C t1) (od := none) ⟨hx, rfl, rfl, trivial⟩ sa ?_
            refine exc_osa X hx hcl (show refsVE (.ref C :: bm) = true from hbm) rfl hnf fun h' tk' dx k' b1 b2 hx' hns => ?_
            refine go h' tk' (fun b o hb e => k' b o hb (k b o hb e)) (fun b o e => k' b o (fun z => by rw [z, hnx] at e; cases e) (X b o e)) (hn.at fun o e => k' L o hLx e) ?_ (.inr ⟨dx, Nat.le_trans hsz b1, b2, hx', ?_⟩)
            · obtain ⟨oL, es, ep, eL, _⟩ := hns
              exact Nat.le_trans hsz (Nat.le_trans b1 (Nat.le_of_lt (Heap.lt_size eL)))
            · rw [zz]; exact hns
          · obtain ⟨oD, esD, epD, hoD, hdD, _⟩ := hns.count (ns := acc.map (·.1)) within_look
            refine set_plain X (ox := { cls := .ref C, dict := some dx, data := .fields #[.ref t1, .none, .none, .none, .bool false, .none] }) (od := some oD) ⟨hx, rfl, rfl, hoD⟩ sa ?_
            refine OEX.osa_old X hx hns (nl := acc.map (·.1)) within_look (by rw [List.length_map]; simp only [List.length_cons] at hz; omega) hcl (show refsVE (.ref C :: bm) = true from hbm) rfl hnf fun h' tk' k' hns' => ?_
            have hLd : L ≠ dx := fun z => Nat.lt_irrefl _ (Nat.lt_of_lt_of_le hL2 (by rw [z]; exact b1))
            refine go h' tk' (fun b o hb e => k' b o (fun z => Nat.lt_irrefl _ (Nat.lt_of_lt_of_le (Heap.lt_size e) (by rw [z]; exact b1))) (k b o hb e)) (fun b o e => k' b o (fun z => ?_) (X b o e)) (hn.at fun o e => k' L o hLd e) ?_ (.inr ⟨dx, b1, b2, k' x _ (Ne.symm b2) hx, ?_⟩)
            · exact Nat.lt_irrefl _ (Nat.lt_of_lt_of_le (hKb b o e) (by rw [z]; exact b1))
            · obtain ⟨oL, es, ep, eL, _⟩ := hns'
              exact Nat.le_trans b1 (Nat.le_of_lt (Heap.lt_size eL))
            · rw [zz]; exact hns'
      · cases h
end
end DE
/-! .. made -/
namespace DE
open PySem PySem.W PySem.Calls PyProof.Rows PySem.HandSPX PySem.Spec
theorem scopeB_ok {fs : List Str} {sc : Scope} (h : scopeB fs sc = true) : sc.kind = .function ∧ sc.isCoroutine = false ∧ sc.isGenerator = false ∧ (∀ x ∈ (("self" : Str) :: fs), sc.names.lookup x = some NameKind.local) ∧ sc.names.lookup ("super" : Str) = some .globalImplicit ∧
    sc.names.lookup ("__class__" : Str) = some .free ∧ (∀ y ∈ sc.names, y.2 ≠ .cell) ∧ (("self" : Str) :: fs).Nodup ∧ fs ≠ [] := by
  unfold scopeB at h
  simp only [Bool.and_eq_true, decide_eq_true_eq, List.all_eq_true, Bool.not_eq_true', decide_eq_true_eq] at h
  obtain ⟨⟨⟨⟨⟨⟨⟨⟨h1, h2⟩, h3⟩, h4⟩, h5⟩, h6⟩, h7⟩, h8⟩, h9⟩ := h
  refine ⟨?_, h2, h3, h4, h5, h6, h7, h8, fun e => by rw [e] at h9; cases h9⟩
  split at h1
  · assumption
  · cases h1
theorem names_plain {env : PySem.Env} : ∀ {fs : List Str} {es : List Expr}, namesB fs es = true → ((starEach es env).all (!·.1)) = true ∧ es.length = fs.length
  | [], [], _ => ⟨rfl, rfl⟩
  | [], _ :: _, h => by cases h
  | _ :: _, [], h => by cases h
  | f :: fs, e :: es, h => by
    cases e with
    | Name x p =>
      simp only [namesB, Bool.and_eq_true] at h
      obtain ⟨h1, h2⟩ := names_plain (env := env) h.2
      exact ⟨by rw [show starEach (.Name x p :: es) env = (false, eval (.Name x p) env) :: starEach es env from rfl, List.all_cons, h1]; rfl, by simp [h2]⟩
    | _ => exact absurd h (by simp [namesB])
theorem back_plain {pos : Pos} : ∀ {l : List (Bool × Sem Value)}, l.all (!·.1) = true → (backTo pos l).all (!·.1) = true
  | [], _ => rfl
  | (b, x) :: r, h => by
    rw [List.all_cons, Bool.and_eq_true] at h
    have h2 := back_plain (pos := pos) h.2
    have e : b = false := by simpa using h.1
    subst e
    show ((false, _) :: backTo pos r).all (!·.1) = true
    rw [List.all_cons, h2]
    rfl
theorem names_form {env : PySem.Env} {pos : Pos} {fs : List Str} {es : List Expr} (h : namesB fs es = true) (hl : fs.length < 30) : methodCallForm (es.length + ([] : List Keyword).length) (backTo pos (starEach es env)) (backToKw pos (keywordEach [] env)) = true := by
  obtain ⟨h1, h2⟩ := names_plain (env := env) h
  unfold methodCallForm
  rw [back_plain h1, h2]
  have : decide (fs.length < 30) = true := decide_eq_true hl
  simpa [backToKw, keywordEach] using hl
theorem mc_eq {o : Expr} {name : Str} {apos pos : Pos} {env : PySem.Env} {args : List Expr} (h : methodCallForm (args.length + ([] : List Keyword).length) (backTo pos (starEach args env)) (backToKw pos (keywordEach [] env)) = true) (hl : (apos.endLine == pos.line) = true) : eval (.Call (.Attribute o name apos) args [] pos) env = (do
      let ov ← attributeBase o name env (eval o env)
      standAt apos.atName
      let (f, first) ← holding [ov] (getMethod ov name (do return (← importBound o env).getD true))
      callWith pos f first (backTo pos (starEach args env)) []) := by
  show (do
    let ov ← attributeBase o name env (eval o env)
    standAt apos.atName
    methodCall o name apos pos env ov (args.length + ([] : List Keyword).length) (backTo pos (starEach args env)) (backToKw pos (keywordEach [] env))) = _
  have e : ∀ ov, methodCall o name apos pos env ov (args.length + ([] : List Keyword).length) (backTo pos (starEach args env)) (backToKw pos (keywordEach [] env)) = (do
      let (f, first) ← holding [ov] (getMethod ov name (do return (← importBound o env).getD true))
      callWith pos f first (backTo pos (starEach args env)) []) := fun ov => by
    unfold methodCall calleeOf methodCallPos
    rw [h, hl]
    simp only [Bool.not_true, Bool.false_or, if_true]
    rfl
  simp only [e]
section
variable {prog : Program} {w : World} {A : Around} {R : Result → Shared → Prop} {s : Shared} {K : Frag} {C fI cc cda : Addr} {flds : List Str}
theorem init_err (T : ErrT prog K C fI cc cda flds) {mg mb : Str → Option Value} (hg : s.heap.Ns mainGlobals mg) (hgs : mg "super" = none) (hb : s.heap.Ns builtinsNs mb) (hbs : mb "super" = some (.type "super")) {x t0 : Addr} {vs : List Value} (X : K.In s.heap) (hlim : s.heap.NoLimit) (hx : s.heap.get? x = some (excO C t0)) (hnx : K.lookup x = none)
    (hroom : A.depth < recursionLimit) (hl : vs.length = flds.length) (hfew : flds.length ≤ 20)
    (hq : ∀ h' tk t1 dx, (∀ b o, b ≠ x → s.heap.get? b = some o → h'.get? b = some o) → h'.get? x = some { cls := .ref C, dict := some dx, data := .fields #[.ref t1, .none, .none, .none, .bool false, .none] } → s.heap.objs.size ≤ dx → dx ≠ x → h'.Ns1 dx (fun y => (flds.zip vs).lookup y) →
      R (.ok (.ret .none)) { s with heap := h', toks := tk }) :
    codeAny (model prog w) A (.call (.ref fI) ⟨.ref x :: vs, []⟩) R s := by
  obtain ⟨oc, od, dV, kV, doc, pm, an, ct, osl, qual, params, body, scope, ar, ho, hcd, hbody, hscope, hpar, har, hbind⟩ := T.fn
  obtain ⟨nm, q, N, bs, bm, sn, sub, ab, col, dd, k0, k1, k2, k3, k5, hC, hbm⟩ := T.cls
  obtain ⟨s1, s2, s3, s4, s5, s6, s7, s8, s9⟩ := scopeB_ok hscope
  obtain ⟨cl, cld, csl, hcell⟩ := T.cell
  obtain ⟨ccl, cdd, cvs, ccs, tf, hcode, hvs⟩ := T.code
  have s8' := List.nodup_cons.mp s8
  have hcl : clsIn K C = some { name := nm, bases := bs, mro := .ref C :: bm, ns := N, qualname := q, hasDict := true, slotNames := sn, subclasses := sub, abstract := ab, collection := col, hasDel := false } := by unfold clsIn; rw [hC] <;> rfl
  refine ks_codeAny_call_defAt (binds := (("self" : Str) :: flds).zip (.ref x :: vs)) hroom (X _ _ ho) rfl hlim (codeRec_of X hcd) rfl (BindsTo.of_eq (hbind _ (by simp [hl]))) s7 (fun y hy => s4 _ (List.of_mem_zip hy).1) (fun h₀ hns k => ?_) s2 s3 s1
  have hm : ∀ (i : Nat) f v, (("self" : Str) :: flds)[i]? = some f → (Value.ref x :: vs)[i]? = some v → ((("self" : Str) :: flds).zip (.ref x :: vs)).reverse.lookup f = some v := fun i f v h1 h2 => by rw [lrev s8]; exact zlook s8 h1 h2
  have X0 : K.In h₀ := X.keeps k
  have hxL : s.heap.objs.size ≠ x := Nat.ne_of_gt (Heap.lt_size hx)
  have hx0 := k _ _ hx
  cases body with
  | nil => cases hbody
  | cons st ss =>
    unfold superB at hbody
    split at hbody
    · rename_i z1
      cases z1
      rename_i xx sN p0 p1 iN ap es cp p4
      simp only [Bool.and_eq_true, decide_eq_true_eq] at hbody
      obtain ⟨⟨⟨⟨e1, e2⟩, hln⟩, hn⟩, hst⟩ := hbody
      subst e1 e2
      have hint : interactive (callEnv (ksFn "__init__" qual params (.Expr (.Call (.Attribute (.Call (.Name "super" p0) [] [] p1) "__init__" ap) es [] cp) p4 :: ss) scope dV kV doc pm an (.ref cda) ct cc) s.heap.objs.size fI) = false := by
        unfold interactive
        have z : (callEnv (ksFn "__init__" qual params (.Expr (.Call (.Attribute (.Call (.Name "super" p0) [] [] p1) "__init__" ap) es [] cp) p4 :: ss) scope dV kV doc pm an (.ref cda) ct cc) s.heap.objs.size fI).scope.kind = .function := s1
        rw [z]
        rfl
      refine ks_wpAt_execs_cons (ks_wpAt_Expr_any (ks_wpAt_MethodCall ?_ (mc_eq (names_form hn (by omega)) hln)) hint)
      have hg0 := hg.keeps k
      have hb0 := hb.keeps k
      refine ks_wpAt_super_base (f := fI) (cc := cda) s5 s6 (by decide) rfl (X0 _ _ ho) rfl hpar rfl (X0 _ _ hcode) rfl hvs (by simp) T.top ?_
      refine ks_loadName_global s1 s5 (loadGlobal_builtin hg0 hgs hb0 hbs ⟨rfl, ?_⟩)
      refine wpAny_loadName_free s1 s6 rfl ⟨_, X0 _ _ hcell, rfl⟩ ?_
      rw [har]
      refine wpAny_loadName_local s1 (s4 _ List.mem_cons_self) hns (hm 0 _ _ rfl rfl) ?_
      have hD0 := X0 _ _ hC
      refine ks_wpAny_isType_cls hD0 rfl ⟨rfl, ?_⟩
      refine ks_wpAny_call_super hD0 rfl hx0 rfl (fun c e => by cases e) (looks_mroIn X0 T.ccC) (fun h1 eso k1 => ?_)
      have X1 : K.In h1 := X0.keeps k1
      have I1 : InstAt h1 x (excO C t0) C none := ⟨k1 _ _ hx0, rfl, rfl, trivial⟩
      have hI : Looks (model prog w) h1 (isInstance (.ref x) (.type "ValueError")) true := I1.type.andThen (looks_subIn X1 T.vaC)
      have hini := T.ini
      unfold ks_superIn at hini
      rw [hcl] at hini
      refine kxs_getMethod kxs_ValueError (l₀ := .ref C :: bm) eso (looks_opaque X1 T.stat) ?_ rfl X1 hini hI (ks_ne X1 I1 hcl) (by decide) ?_
      · exact fun A Q E s k q => wpAny_bind ((looks_clsIn X1 hcl) A _ E s k (wpAny_pure q))
      · have u1 : ∀ b o, h1.get? b = some o → (h1.push (kxs_mw "ValueError.__init__" x)).get? b = some o := fun b o e => Heap.get?_push_of_some _ e
        have k2 : ∀ b o, s.heap.get? b = some o → (h1.push (kxs_mw "ValueError.__init__" x)).get? b = some o := fun b o e => u1 b o (k1 b o (k b o e))
        have hu : (h1.push (kxs_mw "ValueError.__init__" x)).get? h1.objs.size = some (kxs_mw "ValueError.__init__" x) := Heap.get?_push_at rfl rfl
        have ns2 := (hns.keeps k1).keeps u1
        cases es with
        | nil =>
          cases flds with
          | nil => exact absurd rfl s9
          | cons _ _ => cases hn
        | cons e r =>
          cases flds with
          | nil => exact absurd rfl s9
          | cons f0 fr =>
            cases e with
            | Name y py =>
              refine kxs_callWith (i := "ValueError.__init__") (x := x) ?_ ?_
              · obtain ⟨q1, _⟩ := names_plain (env := callEnv (ksFn "__init__" qual params (.Expr (.Call (.Attribute (.Call (.Name "super" p0) [] [] p1) "__init__" ap) (.Name y py :: r) [] cp) p4 :: ss) scope dV kV doc pm an (.ref cda) ct cc) s.heap.objs.size fI) hn
                have q2 := back_plain (pos := cp) q1
                rw [List.all_eq_true] at q2
                rw [List.any_eq_false]
                intro z hz
                simpa using q2 z hz
              · refine evalArgs_plain ?_
                refine names_run (s := ⟨h1.push (kxs_mw "ValueError.__init__" x), s.gens, s.drawn, _, s.os⟩) s1 ns2 hn hl (fun f hf => s4 f (List.mem_cons_of_mem _ hf)) (fun i f v h1 h2 => hm (i + 1) f v (by simpa using h1) (by simpa using h2)) ⟨hu, ?_⟩
                refine call_mw (s := ⟨h1.push (kxs_mw "ValueError.__init__" x), s.gens, s.drawn, _, s.os⟩) hu (k2 _ _ (X _ _ hC)) hbm (k2 _ _ hx) (by rw [List.nil_append, hl, sizeLine_eq]; omega) fun h' t1 k' e' => ?_
                have k3 : ∀ b o, b ≠ x → s.heap.get? b = some o → h'.get? b = some o := fun b o hb e => k' b o hb (k2 b o e)
                have X3 : K.In h' := fun b o e => k3 b o (fun z => by rw [z, hnx] at e; cases e) (X b o e)
                have ns3 : h'.Ns s.heap.objs.size (fun x_1 => List.lookup x_1 (((("self" : Str) :: f0 :: fr).zip (Value.ref x :: vs)).reverse)) := ns2.at fun o e => k' _ o hxL e
                have hL3 : s.heap.objs.size < h'.objs.size := by
                  obtain ⟨oL, es, ep, eL, _⟩ := ns3
                  exact Heap.lt_size eL
                refine wpAt_of_wpAny (stores_run (s := ⟨h', s.gens, s.drawn, _, s.os⟩) (h0 := h') (acc := []) s1 hC hbm T.sa (s4 _ List.mem_cons_self) (hm 0 _ _ rfl rfl) hnx hxL (fun b o e => Heap.lt_size (X3 b o e)) hst hl (by simp only [List.length_nil]; omega)
                  (fun f hf => s4 f (List.mem_cons_of_mem _ hf)) (fun f hf => T.noN f hf) (fun i f v h1 h2 => hm (i + 1) f v (by simpa using h1) (by simpa using h2)) X3 ns3 hL3 (fun _ _ _ e => e) (Nat.le_refl _) (.inl ⟨rfl, e'⟩) fun h4 tk k4 xa => ?_)
                rcases xa with ⟨ea, _⟩ | ⟨dx, b1, b2, hx4, hns4⟩
                · cases vs with
                  | nil => cases hl
                  | cons v vs => simp at ea
                · refine hq h4 tk t1 dx (fun b o hb e => k4 b o hb (k3 b o hb e)) hx4 (Nat.le_trans (Nat.le_of_lt hL3) b1) b2 ?_
                  have z : (fun y => List.lookup y ((List.zip (f0 :: fr) vs).reverse ++ [])) = fun y => List.lookup y (List.zip (f0 :: fr) vs) := by
                    funext y
                    rw [List.append_nil, lrev s8'.2]
                  rw [← z]
                  exact hns4
            | _ => exact absurd hn (by simp [namesB])
    · cases hbody
end
end DE
/-! raise of such an error -/
namespace DE
open PySem PySem.W PySem.Calls PyProof.Rows PySem.HandSPX PySem.Spec L2
structure OwnM (h h' : Heap) (e C d : Addr) (m : Str → Option Value) : Prop where
  keep : ∀ b o, h.get? b = some o → h'.get? b = some o
  new : h.objs.size ≤ e
  obj : ∃ oe vs, h'.get? e = some oe ∧ oe.cls = .ref C ∧ oe.dict = some d ∧ oe.data = .fields vs ∧ vs[1]? = some .none
  dbig : h.objs.size ≤ d
  dne : d ≠ e
  ns : h'.Ns1 d m
section
variable {prog : Program} {w : World} {A : Around} {R : Result → Shared → Prop} {s : Shared} {K : Frag} {C fI cc cda : Addr} {flds : List Str}
theorem err_made (T : ErrT prog K C fI cc cda flds) {mg mb : Str → Option Value} (hg : s.heap.Ns mainGlobals mg) (hgs : mg "super" = none) (hb : s.heap.Ns builtinsNs mb) (hbs : mb "super" = some (.type "super")) {vs : List Value} (X : K.In s.heap) (hlim : s.heap.NoLimit)
    (hroom : A.depth + 1 < recursionLimit) (hl : vs.length = flds.length) (hfew : flds.length ≤ 20) (hq : ∀ h' tk e d, OwnM s.heap h' e C d (fun y => (flds.zip vs).lookup y) → R (.ok (.ret (.ref e))) { s with heap := h', toks := tk }) :
    codeAny (model prog w) A (.call (.ref C) ⟨vs, []⟩) R s := by
  obtain ⟨nm, q, N, bs, bm, sn, sub, ab, col, dd, k0, k1, k2, k3, k5, hC, hbm⟩ := T.cls
  obtain ⟨hp, g, dr, tk, os⟩ := s
  have k : ∀ b o, hp.get? b = some o → ((hp.push (kdv_tup vs)).push (excO C hp.objs.size)).get? b = some o := fun b o e => Heap.get?_push_of_some _ (Heap.get?_push_of_some _ e)
  have hget : ((hp.push (kdv_tup vs)).push (excO C hp.objs.size)).get? (hp.objs.size + 1) = some (excO C hp.objs.size) := by heap_get
  have hnx : K.lookup (hp.objs.size + 1) = none := by
    cases e : K.lookup (hp.objs.size + 1) with
    | none => rfl
    | some o =>
      have z : hp.get? (hp.objs.size + 1) = some o := X _ _ e
      exact absurd (Nat.lt_of_succ_lt (Heap.lt_size z)) (Nat.lt_irrefl _)
  refine call_own F.excBase_ValueError (fun X => refsVE_contains X bm hbm) (X _ _ hC) (looks_findIn X T.iC) (fun self => bind_fn X self T.tI) (by rw [hl, sizeLine_eq]; omega) ?_
  refine init_err (s := ⟨(hp.push (kdv_tup vs)).push (excO C hp.objs.size), g, dr, tk, os⟩) T (hg.keeps k) hgs (hb.keeps k) hbs (X.keeps k) (hlim.keeps k) hget hnx ?_ hl hfew fun h' tk' t1 dx k' hx dn dne hns => ?_
  · show A.depth + 1 < recursionLimit
    exact hroom
  · have old : ∀ b o, hp.get? b = some o → h'.get? b = some o := fun b o e => k' b o (Nat.ne_of_lt (Nat.lt_succ_of_lt (Heap.lt_size e))) (k b o e)
    have z : hp.objs.size + 1 + 1 ≤ dx := by
      first
        | (simpa only [Heap.size_push] using dn)
        | exact dn
        | (have q := dn; rw [Heap.size_push, Heap.size_push] at q; exact q)
    exact ⟨rfl, hq h' tk' (hp.objs.size + 1) dx ⟨old, Nat.le_succ _, ⟨_, _, hx, rfl, rfl, rfl, rfl⟩, Nat.le_trans (Nat.le_trans (Nat.le_succ _) (Nat.le_succ _)) z, dne, hns⟩⟩
end
theorem relO_zip : ∀ {fs : List Str} {vs : List V} {us : List Value}, Vals vs us → ∀ f, RelO ((fs.zip vs).lookup f) ((fs.zip us).lookup f)
  | [], _, _, _, f => by simp [List.lookup]; trivial
  | n :: fs, [], _, h, f => by cases h; simp [List.lookup]; trivial
  | n :: fs, v :: vs, _, h, f => by
    cases h with
    | cons a b =>
      rw [List.zip_cons_cons, List.zip_cons_cons, List.lookup_cons, List.lookup_cons]
      cases f == n with
      | true => exact a
      | false => exact relO_zip b f
theorem raiseOk {X : Cx} {cls : Str} {C fI cc cda : Addr} {flds : List Str} {k : Nat} (T : ErrT X.prog X.K C fI cc cda flds) (hm : X.mg cls = some (.ref C)) (hs : X.mg "super" = none) (hr : Room k X.A) (hfew : flds.length ≤ 20) (hdb : (cls == ("__debug__" : Str)) = false) : RaiseOk X cls flds := by
  refine ⟨C, hm, fun pn xe e es ta p pos s1 s2 ha hg => ?_⟩
  intro pins s σ H Q I h
  refine wpAny_Call_Name_kw (ld_glob I hg hm ?_ hdb)
  refine PySem.W.callWith_K (h₀ := X.base) I.ok.mod.kin T.kC (thn (ha.run pos pins s σ H _ I h) fun us s1 hh => ?_) (star1 s1) (star_any s2)
  obtain ⟨vs, H1, I1, r1, hl, q1⟩ := hh
  refine ⟨I1.kIn, ?_⟩
  show wpAny _ _ (call (.ref C) us) _ _ _
  have hlim := I1.nolimit
  obtain ⟨mb, hb1, hb2⟩ := I1.ok.mod.blt
  have hb := hb1.keeps I1.bk
  have hg1 := I1.ok.mod.glob.keeps I1.bk
  have hbs : mb "super" = some (.type "super") := (hb2 _ (by decide +kernel)).trans (by first | rfl | kernel_rfl)
  have rl := r1.length
  obtain ⟨hp, g, dr, tk, os⟩ := s1
  refine wpAny_call (err_made T hg1 hs hb hbs I1.kIn hlim (by have := hr.dp; show X.A.depth + 1 < _; omega) (rl.symm.trans hl) hfew fun h' tk' e d M => ?_)
  show MkP (X.tr pn xe) pins σ Q (.ref e) ⟨h', g, dr, tk', os⟩
  obtain ⟨oe, fv, hoe, hc, hd, hdat, h1⟩ := M.obj
  have hns := M.ns
  obtain ⟨G', g1, g2⟩ := restrict h' fun b => decide (b ≠ e)
  have gk : ∀ b, b ≠ e → G'.get? b = h'.get? b := fun b hb => g1 b (decide_eq_true hb)
  have ge : G'.get? e = none := g2 e (by simp)
  have old : ∀ b o, hp.get? b = some o → G'.get? b = some o := fun b o q => (gk b (Nat.ne_of_lt (Nat.lt_of_lt_of_le (Heap.lt_size q) M.new))).trans (M.keep b o q)
  have ob : ObjOk X.prog X.w (upd H1 d (.xd (flds.zip vs))) G' d (.xd (flds.zip vs)) := ⟨_, hns.at (fun o q => (gk d M.dne).trans q), fun f => relO_zip r1 f⟩
  have J : Inv (X.tr pn xe) pins σ (upd H1 d (.xd (flds.zip vs))) ⟨G', g, dr, tk', os⟩ := I1.laid (t' := tk') old M.dbig ob
  refine ⟨e, oe, fv, ⟨G', g, dr, tk', os⟩, _, .ref C, some d, rfl, J, fun b o q => ?_, ge, hoe, ⟨hc, hd⟩, hdat, h1, ?_, rfl, I1.bare, raises_own T.exC T.tyC, q1 d (I1.hok.fresh M.dbig)⟩
  · by_cases hb : b = e
    · have q' : G'.get? b = some o := q
      rw [hb, ge] at q'; cases q'
    · exact (gk b hb).symm.trans q
  · rw [upd_ne (Ne.symm M.dne)]
    exact I1.hok.fresh M.new
end DE
/-! A def of the text keeps its promise -/
namespace DE
open PySem PySem.Spec PyProof.Rows L2
/-- what the module gives, at a level of calls -/
structure Wd (P : Program) (w : World) (K : PySem.W.Frag) (mg : MG) (base : Heap) (T : Tab) (Γ : Gam) (k : Nat) : Prop where
  fns : ∀ x n, T.fns.lookup x = some n → ∃ (j : Nat) (f : Addr) (fd : FuncData) (ps : List Str), j ≤ k ∧ FnG P w K mg base (L2.CX P w) j f fd ps (spD K mg n (Γ.fn x)) ∧ mg x = some (.ref f) ∧ PySem.W.keepIn K (.ref f) = true ∧ Binds K fd ps []
  modes : ∀ m, m ∈ T.modes → ∃ (j : Nat) (f : Addr) (fd : FuncData) (ps : List Str) (its : List Value) (dvs : List V), j ≤ k ∧ FnG P w K mg base (L2.CX P w) j f fd ps (spD K mg ps.length (Γ.fn m.1)) ∧ mg m.1 = some (.ref f) ∧ PySem.W.keepIn K (.ref f) = true ∧
    Vals dvs its ∧ (∀ J G, Reps K mg J G m.2.2.2 dvs) ∧ m.2.1 + (m.2.2.1.length + m.2.2.2.length) = ps.length ∧
    ∀ (s : Shared) (us ws : List Value), K.In s.heap → us.length = m.2.1 → ws.length = m.2.2.1.length → BindsTo s fd ⟨us, m.2.2.1.zip ws⟩ (ps.zip (us ++ (ws ++ its)))
  csts : ∀ x d, T.csts.lookup x = some d → ∃ (v : V) (u : Value), mg x = some u ∧ RelV v u ∧ ∀ J G, Rep K mg J G d v
  bis : ∀ x, x ∈ T.bis → mg x = none
  gcd : T.gcd = true → mg "gcd" = some (.builtin "math.gcd")
  exs : ∀ x fl, T.exs.lookup x = some fl → Γ.ex x = some fl ∧ ∃ C fI cc cda : Addr, ErrT P K C fI cc cda fl ∧ mg x = some (.ref C) ∧ fl.length ≤ 20 ∧ (x == ("__debug__" : Str)) = false
  sup : T.exs ≠ [] → mg "super" = none
  subs : Subs K mg T.flds Γ
  cls : ∀ x, x ∈ T.cls → ∃ C : Addr, mg x = some (.ref C)
section
variable {P : Program} {w : World} {K : PySem.W.Frag} {mg : MG} {base : Heap} {T : Tab} {Γ : Gam} {k : Nat}
theorem Wd.mono (h : Wd P w K mg base T Γ k) {k' : Nat} (hk : k ≤ k') : Wd P w K mg base T Γ k' where
  fns := fun x n e => by
    obtain ⟨j, f, fd, ps, h1, h2⟩ := h.fns x n e
    exact ⟨j, f, fd, ps, Nat.le_trans h1 hk, h2⟩
  modes := fun m e => by
    obtain ⟨j, f, fd, ps, its, dvs, h1, h2⟩ := h.modes m e
    exact ⟨j, f, fd, ps, its, dvs, Nat.le_trans h1 hk, h2⟩
  csts := h.csts
  bis := h.bis
  gcd := h.gcd
  exs := h.exs
  sup := h.sup
  subs := h.subs
  cls := h.cls
theorem startD {J : Option Addr} {G : Hp} : ∀ {N : List Str} {ds : List D} {vs : List V}, Reps K mg J G ds vs → ∀ (i : Nat) (s : Sl), (ds.map Sl.val ++ List.replicate (N.length - ds.length) Sl.non)[i]? = some s → ∀ H, SlOk K mg J G H s (L2.start N vs)[i]? := by
  intro N ds vs r i s e H
  unfold L2.start
  have hl := r.length
  by_cases hi : i < ds.length
  · rw [List.getElem?_append_left (by simpa using hi)] at e
    rw [List.getElem?_append_left (by rw [List.length_map, ← hl]; exact hi)]
    rw [List.getElem?_map] at e
    rw [List.getElem?_map]
    cases q : ds[i]? with
    | none => rw [q] at e; cases e
    | some d =>
      rw [q] at e
      cases e
      have get : ∀ {ds : List D} {vs : List V} {i : Nat}, Reps K mg J G ds vs → ∀ {d}, ds[i]? = some d → ∃ v, vs[i]? = some v ∧ Rep K mg J G d v := by
        intro ds
        induction ds with
        | nil => intro vs i r d e; simp at e
        | cons a l ih =>
          intro vs i r d e
          cases r with
          | @cons d0 v0 _ vs0 ra rb =>
            cases i with
            | zero => simp at e; subst e; exact ⟨v0, rfl, ra⟩
            | succ i =>
              obtain ⟨v, e1, e2⟩ := ih rb (by simpa using e)
              exact ⟨v, by simpa using e1, e2⟩
      obtain ⟨v, e1, e2⟩ := get r q
      rw [e1]
      exact ⟨v, rfl, e2⟩
  · rw [List.getElem?_append_right (by simpa using hi)] at e
    rw [List.getElem?_replicate] at e
    split at e
    · cases e; exact True.intro
    · cases e
theorem start_no_own {N : List Str} {ds : List D} {i : Nat} {xs : List D} (e : (ds.map Sl.val ++ List.replicate (N.length - ds.length) Sl.non)[i]? = some (.own xs)) : False := by
  have := List.mem_of_getElem? e
  rw [List.mem_append, List.mem_map, List.mem_replicate] at this
  rcases this with ⟨_, _, z⟩ | ⟨_, z⟩ <;> cases z
/-- the body in its context -/
theorem okS {CX : CXT} {W : WX} {N : List Str} {qual : Str} {scope : Scope} {f : Addr} {cdv : Value} {A : Around} {outer : List PySem.Env} {s : Shared} {H : Hp} {E : XK} {c : Ct} (W0 : Wd P w K mg base c.T Γ k) (hN : N.Nodup) (cN : c.N = N) (csc : c.sc = scope) (cf : c.fnl = none) (hr : RoomG k (A.deeper (envOfC qual scope s.heap.objs.size f cdv)))
    (tk : Takes (cxOf CX P w K mg base N qual scope f cdv A outer s H E) W) : OkS (cxOf CX P w K mg base N qual scope f cdv A outer s H E) mg W c Γ where
  N := cN.symm
  nd := hN
  sc := csc.symm
  calm := rfl
  hu := hr.rm.units
  gd := hr.gd
  hmg := rfl
  tk := tk
  fnl := fun _ _ => rfl
  fns := fun x n e => by
    obtain ⟨j, f, fd, ps, h1, h2, h3, h4, h5⟩ := W0.fns x n e
    exact ⟨j, f, fd, ps, h2, hr.mono h1, h3, h4, h5⟩
  modes := fun m e => by
    obtain ⟨j, f, fd, ps, its, dvs, h1, h2, h3, h4, h5, h6, h7, h8⟩ := W0.modes m e
    exact ⟨j, f, fd, ps, its, dvs, h2, hr.mono h1, h3, h4, h5, h6, h7, h8⟩
  csts := W0.csts
  bis := W0.bis
  gcd := W0.gcd
  exs := fun x fl e => by
    obtain ⟨h1, C, fI, cc, cda, h2, h3, h4, h5⟩ := W0.exs x fl e
    exact ⟨h1, raiseOk h2 h3 (W0.sup fun z => by rw [z] at e; cases e) hr.rm h4 h5⟩
  hp := passes_of rfl
  stk := rfl
  frm := rfl
  subs := W0.subs
  cls := W0.cls
theorem def_ok {x qual : Str} {params : Arguments} {body : List Stmt} {scope : Scope} {dvs : List V} {kws : List (Str × V)} {f : Addr} {fd : FuncData} {N ps : List Str} {c : Ct} {mu : List Nat} {fuel : Nat} {cs : List CS} (F : FunD K x qual params body scope dvs kws f fd) (S : FnScope N ps scope)
    (W0 : Wd P w K mg base c.T Γ k) (cN : c.N = N) (csc : c.sc = scope) (cf : c.fnl = none) (hc : cSs c mu fuel body = some cs) : FnG P w K mg base (L2.CX P w) (k + 1) f fd ps (spD K mg ps.length (runF Γ N.length cs)) := by
  refine fn_okG F S (fun vs H Q E h => ?_) fun cdv A outer s H vs Q E hr h => ?_
  · obtain ⟨J, G, ds, st, le, j, r, hl, p⟩ := h
    rw [← r.length, hl]
  · have ok := okS (CX := L2.CX P w) (outer := outer) (H := H) (E := E) (f := f) (cdv := cdv) (qual := qual) W0 S.nd cN csc cf hr (takes_of rfl rfl rfl rfl)
    refine ⟨_, (soundS fuel ok).2 _ _ hc, ?_⟩
    obtain ⟨J, G, ds, st, le, j, r, hl, p⟩ := h
    have hpl : ps.length ≤ N.length := by have := congrArg List.length S.pre; rw [List.length_take] at this; omega
    refine ⟨J, G, H, G, _, st, ⟨⟨⟨?_, fun i sl e => startD r i sl e H, fun i j xs ys a e1 _ _ _ => (start_no_own e1).elim⟩, le, j⟩, Ext.refl le, fun i xs a e1 _ => (start_no_own e1).elim⟩, ?_⟩
    · unfold L2.start
      rw [List.length_append, List.length_append, List.length_map, List.length_map, List.length_replicate, List.length_replicate, r.length]
    · unfold runF at p
      split at p
      · rename_i ρ' st' e
        rw [e]
        exact fun σ' H' G' r' => p .non G' H' r'.ext r'.now.j .non
      · rename_i d st' e
        rw [e]
        exact fun v H' G' x' j' rp => p v G' H' x' j' rp
      · rename_i ex ρ' st' e
        rw [e]
        exact fun cls dd σ' H' G' r' xr => p cls dd G' H' r'.ext r'.now.j xr
      · exact p.elim
end
end DE
/-! The def that makes the one list, and the law's def -/
namespace DE
open PySem PySem.Spec PyProof.Rows L2
/-- a def that returns a new list -/
def spF (K : PySem.W.Frag) (mg : MG) (n : Nat) (F : List D → M (List D)) : Sp := fun vs H Q E => ∃ (J : Option Addr) (G : Hp) (ds : List D) (st : S), Same G H ∧ JOk K mg J G H st ∧ Reps K mg J G ds vs ∧ ds.length = n ∧
  PostF K mg J G H [] (fun cls dd _ H' => E cls dd H') Q (F ds st)
def runL (Γ : Gam) (n : Nat) (es : List C) (ds : List D) : M (List D) := evs Γ es (ds.map .val ++ List.replicate (n - ds.length) .non)
section
variable {P : Program} {w : World} {K : PySem.W.Frag} {mg : MG} {base : Heap} {Γ : Gam} {k : Nat}
theorem list_te {X : Cx} {W : WX} {c : Ct} (ok : OkX X mg W c Γ) {fuel : Nat} {es : List Expr} {lp : Pos} {es' : List C} (hc : cE c fuel (.List es lp) = some (.lst es')) : PE X (.List es lp) (tF X.K mg W (evs Γ es')) := by
  cases fuel with
  | zero => simp [cE] at hc
  | succ n =>
    simp only [cE] at hc
    obtain ⟨h1, h⟩ := ify hc
    rw [Bool.and_eq_true] at h1
    obtain ⟨es2, e1, e2⟩ := mpd h
    cases e2
    obtain ⟨ha, hl2⟩ := sound_args (fun e e' h => sound n ok h) h1.1 e1
    exact pe_lstF ha fun ρ st ds st1 e => by rw [evs_len e, hl2]; exact of_decide_eq_true h1.2
theorem start_rel {J : Option Addr} {G H : Hp} {N : List Str} {ds : List D} {vs : List V} {st : S} (le : Same G H) (j : JOk K mg J G H st) (r : Reps K mg J G ds vs) (hpl : vs.length ≤ N.length) :
    Rel K mg J G H (L2.start N vs) H (ds.map .val ++ List.replicate (N.length - ds.length) .non) G st := by
  refine ⟨⟨⟨?_, fun i sl e => startD r i sl e H, fun i j xs ys a e1 _ _ _ => (start_no_own e1).elim⟩, le, j⟩, Ext.refl le, fun i xs a e1 _ => (start_no_own e1).elim⟩
  unfold L2.start
  rw [List.length_append, List.length_append, List.length_map, List.length_map, List.length_replicate, List.length_replicate, r.length]
theorem urn_ok {x qual : Str} {params : Arguments} {body : List Stmt} {scope : Scope} {dvs : List V} {kws : List (Str × V)} {f : Addr} {fd : FuncData} {N ps : List Str} {c : Ct} {fuel : Nat} {es : List Expr} {lp rp : Pos} {es' : List C} (F : FunD K x qual params body scope dvs kws f fd) (S : FnScope N ps scope)
    (W0 : Wd P w K mg base c.T Γ k) (cN : c.N = N) (csc : c.sc = scope) (cf : c.fnl = none) (hb : body = [.Return (some (.List es lp)) rp]) (hc : cE c fuel (.List es lp) = some (.lst es')) : FnG P w K mg base (L2.CX P w) (k + 1) f fd ps (spF K mg ps.length (runL Γ N.length es')) := by
  subst hb
  refine fn_okG F S (fun vs H Q E h => ?_) fun cdv A outer s H vs Q E hr h => ?_
  · obtain ⟨J, G, ds, st, le, j, r, hl, p⟩ := h
    rw [← r.length, hl]
  · have ok := okS (CX := L2.CX P w) (outer := outer) (H := H) (E := E) (f := f) (cdv := cdv) (qual := qual) W0 S.nd cN csc cf hr (takes_of rfl rfl rfl rfl)
    refine ⟨_, pss_one (ps_ret (list_te ok.toOkX hc)), ?_⟩
    obtain ⟨J, G, ds, st, le, j, r, hl, p⟩ := h
    have hpl : ps.length ≤ N.length := by have := congrArg List.length S.pre; rw [List.length_take] at this; omega
    have rl := start_rel le j r (N := N) (by rw [← r.length, hl]; exact hpl)
    refine ⟨J, G, _, st, rl.now, ?_⟩
    unfold runL at p
    cases e : evs Γ es' (ds.map .val ++ List.replicate (N.length - ds.length) .non) st with
    | ok xs st1 => rw [e] at p; exact p
    | err ex st1 => rw [e] at p; exact p
    | stuck => rw [e] at p; exact p
/-- the law's promise -/
def spLaw (K : PySem.W.Frag) : Sp := fun vs H Q _ => ∃ (a : Addr) (ns : List Int), vs = [.ref a] ∧ ns.length ≤ 63 ∧ SqL K H a (ns.map V.int) ∧ ∀ H', Q (.bl true) H'
theorem reps_ints {J : Option Addr} {G : Hp} : ∀ {ns : List Int}, Reps K mg J G (ns.map D.int) (ns.map V.int)
  | [] => .nil
  | n :: r => .cons (.int n) (reps_ints (ns := r))
mutual
theorem _root_.DE.Rep.lift {J : Option Addr} {G : Hp} : ∀ {d : D} {v : V}, Rep K mg none G d v → Rep K mg J G d v
  | _, _, .non => .non
  | _, _, .bl b => .bl b
  | _, _, .int b => .int b
  | _, _, .str b => .str b
  | _, _, .ty b => .ty b
  | _, _, .glb h => .glb h
  | _, _, .jug h => nomatch h
  | _, _, .dic h => .dic h
  | _, _, .tup h r => .tup h (Reps.lift r)
  | _, _, .lst h r => .lst h (Reps.lift r)
  | _, _, .klst h r => .klst h (Reps.lift r)
  | _, _, .ins h g r => .ins h g (RepF.lift r)
theorem _root_.DE.Reps.lift {J : Option Addr} {G : Hp} : ∀ {d : List D} {v : List V}, Reps K mg none G d v → Reps K mg J G d v
  | _, _, .nil => .nil
  | _, _, .cons a b => .cons (Rep.lift a) (Reps.lift b)
theorem _root_.DE.RepF.lift {J : Option Addr} {G : Hp} : ∀ {d : List (Str × D)} {v : List (Str × V)}, RepF K mg none G d v → RepF K mg J G d v
  | _, _, .nil => .nil
  | _, _, .cons a b => .cons (Rep.lift a) (RepF.lift b)
end
theorem law_ok {x qual : Str} {params : Arguments} {body rest : List Stmt} {scope : Scope} {dvs : List V} {kws : List (Str × V)} {f u : Addr} {fd ud : FuncData} {N ups : List Str} {c : Ct} {mu : List Nat} {fuel i j : Nat} {ux un sx : Str} {up p sp0 cp ap : Pos} {cs : List CS} {FU : List D → M (List D)} (F : FunD K x qual params body scope dvs kws f fd) (S : FnScope N [sx] scope)
    (W0 : Wd P w K mg base c.T Γ k) (cN : c.N = N) (csc : c.sc = scope) (cf : c.fnl = none) (U : FnG P w K mg base (L2.CX P w) j u ud ups (spF K mg 1 FU)) (hj : j ≤ k) (gu : mg un = some (.ref u)) (ku : PySem.W.keepIn K (.ref u) = true) (bu : Binds K ud ups [])
    (hb : body = .Assign [.Name ux up] (.Call (.Name un p) [.Name sx sp0] [] cp) ap :: rest) (h1 : isLoc c ux = true) (h2 : ixOf ux c.N = some i) (h3 : (okName un && isGl c.sc un) = true) (h4 : (okName sx && isVis c.sc sx) = true) (hc : cSs c mu fuel rest = some cs)
    (plain : ∀ ns : List Int, ns.length ≤ 63 → ∃ xs st', FU [.klst (ns.map .int)] [] = .ok xs [] ∧ evSs Γ cs (([D.klst (ns.map .int)].map Sl.val ++ List.replicate (N.length - 1) Sl.non).set i (.val .jug)) xs = .ret (.bl true) st') :
    FnG P w K mg base CX0 (k + 1) f fd [sx] (spLaw K) := by
  subst hb
  refine fn_okG F S (fun vs H Q E h => ?_) fun cdv A outer s H vs Q E hr h => ?_
  · obtain ⟨a, ns, rfl, _⟩ := h
    rfl
  · have ok := okS (CX := CX0) (outer := outer) (H := H) (E := E) (f := f) (cdv := cdv) (qual := qual) W0 S.nd cN csc cf hr takes0
    rw [Bool.and_eq_true] at h3 h4
    obtain ⟨l1, l2⟩ := ok.toOkX.loc h1
    have hl : [sx].length ≤ N.length := by have := congrArg List.length S.pre; rw [List.length_take] at this; omega
    have h0 : N[0]? = some sx := by
      have z := S.pre
      cases N with
      | nil => cases z
      | cons y r => simp at z; simp [z]
    have he := pe_callG (X := cxOf CX0 P w K mg base N qual scope f cdv A outer s H E) (p := p) (pos := cp) U (hr.mono hj) (ok.toOkX.gl h3.2) gu ku bu (fun σ => passAt ok.tk σ) (pa_cons (pe_var (i := 0) (pos := sp0) h0 (ok.toOkX.vis h4.2) (okName_ok h4.1).1 (okName_ok h4.1).2) pa_nil rfl) (okName_ok h3.1).1 rfl rfl
    refine ⟨_, pss_cons (ps_set ok.nd (ok.toOkX.at_ h2) l1 he rfl l2) ((soundS fuel ok).2 _ _ hc), ?_⟩
    obtain ⟨a, ns, rfl, hns, hR, hQ⟩ := h
    obtain ⟨xs, st', e1, e2⟩ := plain ns hns
    have hs0 : (L2.start N [V.ref a])[0]? = some (some (.ref a)) := rfl
    refine ⟨_, hs0, none, H, [.klst (ns.map .int)], [], fun _ _ e => e, rfl, .cons (.klst hR reps_ints) .nil, rfl, ?_⟩
    rw [e1]
    intro p' vs' G' H' x' j' hp hg hn r'
    have r0 : Reps K mg none G' [D.klst (ns.map .int)] [V.ref a] := Reps.mono x'.gg (.cons (.klst hR reps_ints) .nil)
    have jj : JOk K mg (some p') G' H' xs := ⟨hg, vs', hp, r'.lift⟩
    have R0 := start_rel (N := N) x'.le jj (Reps.lift (J := some p') r0) (by exact hl)
    have hi : i < N.length := by
      have z := ok.toOkX.at_ h2
      exact lt_of_get z
    have hlen : i < ([D.klst (ns.map .int)].map Sl.val ++ List.replicate (N.length - 1) Sl.non).length := by
      simp only [List.map, List.length_append, List.length_cons, List.length_nil, List.length_replicate]
      simp only [List.length_cons, List.length_nil] at hl
      omega
    have R1 := R0.set (i := i) hlen (d := .jug) (v := .ref p') (.jug rfl)
    refine ⟨some p', G', H', G', _, xs, R1, ?_⟩
    show RPost _ _ _ _ _ _ _ (evSs Γ cs (([D.klst (ns.map .int)].map Sl.val ++ List.replicate (N.length - 1) Sl.non).set i (.val .jug)) xs)
    rw [e2]
    intro v H2 G2 _ _ rv
    cases rv
    exact hQ H2
end
end DE
/-! What the head tells of the module: defs, facts, own errors -/
namespace DE
open PySem PySem.W PyProof.Rows PySem.HandSPX PySem.Spec L2 He
/-- an own error's class, its fields, its __init__ -/
structure EDef where
  cls : Str
  flds : List Str
  qual : Str
  params : Arguments
  body : List Stmt
  scope : Scope
abbrev EV : Type := Option (Str × Str × Arguments × FuncBody × Scope × Addr × List Str × Addr)
def iAd (K : Frag) (x : Str) : Addr := ma K (ga K x) "__init__"
def eObs (K : Frag) (e : EDef) : EV := match K.lookup (iAd K e.cls) with
  | some ⟨_, _, .func fd, _⟩ => some (fd.name, fd.qualname, fd.params, fd.body, fd.scope, fd.globals, fd.closure.map (·.1), fd.builtins)
  | _ => none
def eVal (e : EDef) : EV := some ("__init__", e.qual, e.params, .stmts e.body, e.scope, mainGlobals, [("__class__" : Str)], builtinsNs)
def ccA (K : Frag) (x : Str) : Addr := match K.lookup (iAd K x) with
  | some ⟨_, _, .func fd, _⟩ => (match fd.closure with
    | [(_, c)] => c
    | _ => 0)
  | _ => 0
def cdA (K : Frag) (x : Str) : Addr := match K.lookup (iAd K x) with
  | some ⟨_, _, .func fd, _⟩ => (match fd.code with
    | .ref c => c
    | _ => 0)
  | _ => 0
def excClsB (K : Frag) (C : Addr) : Bool := match K.lookup C with
  | some ⟨.type "type", _, .cls cd, sl⟩ => (match cd.mro, sl.toList with
    | .ref D :: bm, [_, _, _, _, some (.builtin n), _] => decide (D = C) && (decide (n = "ValueError.__new__") && (!cd.hasDel && (cd.hasDict && refsVE bm)))
    | _, _ => false)
  | _ => false
theorem excClsB_ok {K : Frag} {C : Addr} (h : excClsB K C = true) : ∃ nm q N bs bm sn sub ab col dd k0 k1 k2 k3 k5, K.lookup C = some (excClassObj nm q C N bs bm true sn sub ab col dd k0 k1 k2 k3 k5 "ValueError.__new__") ∧ refsVE bm = true := by
  unfold excClsB at h
  split at h
  · rename_i dd cd sl ho
    split at h
    · rename_i D bm k0 k1 k2 k3 n k5 hm hs
      simp only [Bool.and_eq_true, decide_eq_true_eq, Bool.not_eq_true'] at h
      obtain ⟨rfl, rfl, h3, h4, h5⟩ := h
      obtain ⟨nm, bs, mro, ns, qn, hd, sn, sb, ab, col, del⟩ := cd
      dsimp only at hm h3 h4
      subst hm h3 h4
      have e : sl = #[k0, k1, k2, k3, some (.builtin "ValueError.__new__"), k5] := by
        apply Array.ext'
        rw [hs]
      subst e
      exact ⟨nm, qn, ns, bs, bm, sn, sb, ab, col, dd, k0, k1, k2, k3, k5, ho, h5⟩
    · cases h
  · cases h
def eB (file : Str) (K : Frag) (e : EDef) : Bool :=
  excClsB K (ga K e.cls) && (decide (findIn K (.ref (ga K e.cls)) "__setattr__" = some (some (.builtin "object.__setattr__"))) && ((e.flds.all fun f => decide (findIn K (.ref (ga K e.cls)) f = some none)) &&
  (decide (findIn K (.ref (ga K e.cls)) "__init__" = some (some (.ref (iAd K e.cls)))) && (decide (typeIn K (.ref (iAd K e.cls)) = some (.type "function")) && (keepIn K (.ref (ga K e.cls)) &&
  (decide (subIn K (.ref (ga K e.cls)) (.type "BaseException") = some true) && (decide (subIn K (.ref (ga K e.cls)) (.type "ValueError") = some true) && (decide (mroIn K (ga K e.cls) (.ref (ga K e.cls)) = some true) &&
  (decide (typeIn K (.ref (ga K e.cls)) = some (.type "type")) && (codeIn K (.ref (cdA K e.cls)) e.qual &&
  ((match K.lookup (iAd K e.cls) with
    | some ⟨_, _, .func fd, _⟩ => (match fd.closure, fd.code, fd.defaults with
      | [_], .ref _, .none => true
      | _, _, _ => false)
    | _ => false) &&
  ((match K.lookup (ccA K e.cls) with
    | some ⟨_, _, .cell (some (.ref D)), _⟩ => decide (D = ga K e.cls)
    | _ => false) &&
  ((match K.lookup (cdA K e.cls) with
    | some ⟨_, _, .fields vs, _⟩ => (match (vs[2]? : Option Value) with
      | some (Value.str f _) => decide (f = file)
      | _ => false)
    | _ => false) &&
  (decide (nsIn K cStatics "thirdparty.any" = some none) && (decide (ks_superIn K (ga K e.cls) (ga K e.cls) "__init__" = some (some (.builtin "ValueError.__init__"))) && (superB e.flds e.body && (scopeB e.flds e.scope && xfB K (ga K e.cls))))))))))))))))))
/-- what is asked of the text alone -/
structure EText (e : EDef) : Prop where
  head : ∃ ar, (e.params.posonlyargs ++ e.params.args).head? = some ar ∧ ar.arg = ("self" : Str)
  bind : ∀ (kV doc pm cda : Value) (an : Option Addr) (ct : Value) (cl : List (Str × Addr)) (us : List Value), us.length = e.flds.length + 1 → bindArgs (fnX "__init__" e.qual e.params e.body e.scope cl .none kV doc pm an cda ct) ⟨us, []⟩ = pure ((("self" : Str) :: e.flds).zip us)
theorem errT_of {P : Program} {K : Frag} {e : EDef} (h : eObs K e = eVal e) (b : eB P.main.file K e = true) (t : EText e) (ht : (P.main.scope.names.lookup ("super" : Str)).isSome = false) : ErrT P K (ga K e.cls) (iAd K e.cls) (ccA K e.cls) (cdA K e.cls) e.flds ∧ XfC K (ga K e.cls) := by
  unfold eB at b
  simp only [Bool.and_eq_true, decide_eq_true_eq, List.all_eq_true] at b
  obtain ⟨b1, b2, b3, b4, b5, b6, b7, b8, b9, b10, b11, b12, b13, b14, b15, b16, b17, b18, b19⟩ := b
  refine ⟨⟨excClsB_ok b1, b2, b3, b4, b5, b6, b7, b8, b9, b10, ?_, ?_, ?_, b15, b16, ht⟩, xfB_ok b19⟩
  · unfold eObs eVal at h
    cases q : K.lookup (iAd K e.cls) with
    | none => rw [q] at h; cases h
    | some o =>
      obtain ⟨oc, od, dt, osl⟩ := o
      rw [q] at h b12
      cases dt with
      | func fd =>
        obtain ⟨n1, n2, n3, n4, n5, n6, n7, n8, n9, n10, n11, n12, n13, n14, n15⟩ := fd
        simp only [Option.some.injEq, Prod.mk.injEq] at h
        obtain ⟨rfl, rfl, rfl, rfl, rfl, rfl, h7, rfl⟩ := h
        dsimp only at b12
        cases n7 with
        | nil => simp at h7
        | cons p r =>
          cases r with
          | cons _ _ => simp at h7
          | nil =>
            obtain ⟨cn, cc⟩ := p
            simp only [List.map, List.cons.injEq, and_true] at h7
            subst h7
            cases n13 with
            | ref cda =>
              cases n8 with
              | none =>
              have ecc : ccA K e.cls = cc := by unfold ccA; rw [q]
              have ecd : cdA K e.cls = cda := by unfold cdA; rw [q]
              rw [ecc, ecd]
              obtain ⟨ar, a1, a2⟩ := t.head
              rw [ecd] at b11
              exact ⟨oc, od, .none, n9, n10, n11, n12, n14, osl, e.qual, e.params, e.body, e.scope, ar, rfl, b11, b17, b18, a1, a2, fun us hu => t.bind _ _ _ _ _ _ _ us hu⟩
              | _ => cases b12
            | _ => cases b12
      | _ => cases h
  · split at b13
    · rename_i q
      have := of_decide_eq_true b13
      subst this
      exact ⟨_, _, _, q⟩
    · cases b13
  · split at b14
    · rename_i q
      split at b14
      · rename_i q2
        have := of_decide_eq_true b14
        subst this
        exact ⟨_, _, _, _, _, q, q2⟩
      · cases b14
    · cases b14
/-! ### the Hook -/
abbrev AlE : Type := (AlD × List EV) × Bool
def obsE (fa : List Fa) (fn : List DefD) (es : List EDef) (file : Str) (ex : Frag → Bool) (K : Frag) : AlE := ((obsD fa fn K, es.map (eObs K)), (es.all (eB file K)) && ex K)
def valE (fn : List DefD) (es : List EDef) : AlE := ((valD fn, es.map eVal), true)
def frE (g : Addr → Option Obj) (n : Nat) : Frag := frG g (cStatics :: asD g n)
def obsEG (n : Nat) (fa : List Fa) (fn : List DefD) (es : List EDef) (file : Str) (ex : Frag → Bool) (g : Addr → Option Obj) : AlE := obsE fa fn es file ex (frE g n)
def SaysE (fa : List Fa) (fn : List DefD) (es : List EDef) (file : Str) (ex : Frag → Bool) (K : Frag) : Prop := obsE fa fn es file ex K = valE fn es
def hookE (n : Nat) (fa : List Fa) (fn : List DefD) (es : List EDef) (file : Str) (ex : Frag → Bool) : Hook where
  α := AlE
  obs := fun s => obsEG n fa fn es file ex s.heap.get?
  val := fun _ => valE fn es
  says := fun _ h => ∃ K : Frag, K.In h ∧ SaysE fa fn es file ex K
  of := fun _ _ e => ⟨_, frG_in, e⟩
  keeps := fun _ _ _ ⟨K, hK, c⟩ k => ⟨K, Frag.In.keeps hK k, c⟩
theorem obsEG_eq {n : Nat} {fa : List Fa} {fn : List DefD} {es : List EDef} {file : Str} {ex : Frag → Bool} {g : Addr → Option Obj} {s : Shared} (h : ∀ a, g a = s.heap.get? a) : obsEG n fa fn es file ex g = (hookE n fa fn es file ex).obs s := by
  have e : g = s.heap.get? := funext h
  rw [e] <;> rfl
theorem SaysE.d {fa : List Fa} {fn : List DefD} {es : List EDef} {file : Str} {ex : Frag → Bool} {K : Frag} (c : SaysE fa fn es file ex K) : SaysD fa fn K := congrArg (fun z : AlE => z.1.1) c
theorem SaysE.more {fa : List Fa} {fn : List DefD} {es : List EDef} {file : Str} {ex : Frag → Bool} {K : Frag} (c : SaysE fa fn es file ex K) : ex K = true := (ba (show ((es.all (eB file K)) && ex K) = true from congrArg (fun z : AlE => z.2) c)).2
theorem SaysE.err {fa : List Fa} {fn : List DefD} {es : List EDef} {file : Str} {ex : Frag → Bool} {K : Frag} (c : SaysE fa fn es file ex K) (i : Nat) {e : EDef} (h : es[i]? = some e := by rfl) : eObs K e = eVal e ∧ eB file K e = true := by
  have c1 := (ba (show ((es.all (eB file K)) && ex K) = true from congrArg (fun z : AlE => z.2) c)).1
  have c2 : es.map (eObs K) = es.map eVal := congrArg (fun z : AlE => z.1.2) c
  refine ⟨?_, List.all_eq_true.mp c1 e (List.mem_of_getElem? h)⟩
  have e2 : (es.map (eObs K))[i]? = (es.map eVal)[i]? := by rw [c2]
  rw [List.getElem?_map, List.getElem?_map, h] at e2
  exact Option.some.inj e2
end DE
/-! Small helps for the printed part -/
namespace DE
open PySem PySem.W PyProof.Rows PySem.HandSPX PySem.Spec L2 He
theorem look_all {α : Type} {l : List (Str × α)} {P : Str → α → Prop} (h : ∀ p, p ∈ l → P p.1 p.2) : ∀ x a, l.lookup x = some a → P x a := fun x a e => h (x, a) (PySem.mem_of_lookup e)
theorem fa_nil {α : Type} {P : α → Prop} : ∀ p, p ∈ ([] : List α) → P p := fun _ h => nomatch h
theorem fa_cons {α : Type} {a : α} {l : List α} {P : α → Prop} (h : P a) (r : ∀ p, p ∈ l → P p) : ∀ p, p ∈ a :: l → P p := fun p hp => by
  rcases List.mem_cons.mp hp with e | hp
  · rw [e]; exact h
  · exact r p hp
/-- the table of which error is of which class -/
abbrev SubT := List ((Str × Str) × Bool)
def subOf (t : SubT) (x y : Str) : Option Bool := match t.find? fun p => decide (p.1.1 = x) && decide (p.1.2 = y) with
  | some p => some p.2
  | none => none
theorem subs_of {K : Frag} {mg : MG} {flds : List Str} {Γ : Gam} {t : SubT} (e : Γ.sub = subOf t) (h : ∀ p, p ∈ t → ∃ Ca Cb : Addr, mg p.1.1 = some (.ref Ca) ∧ mg p.1.2 = some (.ref Cb) ∧ exmOne K (.ref Ca) (.ref Cb) = some p.2 ∧ XfC K Ca ∧ ∀ f ∈ flds, findIn K (.ref Ca) f = some none) : Subs K mg flds Γ := by
  intro x y b q
  rw [e] at q
  unfold subOf at q
  split at q
  · rename_i p hp
    cases q
    have h1 := List.mem_of_find?_eq_some hp
    have h2 := List.find?_some hp
    simp only [Bool.and_eq_true, decide_eq_true_eq] at h2
    obtain ⟨rfl, rfl⟩ := h2
    exact h p h1
  · cases q
theorem subs_none {K : Frag} {mg : MG} {flds : List Str} {Γ : Gam} (e : Γ.sub = fun _ _ => none) : Subs K mg flds Γ := by
  intro x y b q
  rw [e] at q
  cases q
/-- a way of calling a def without defaults -/
theorem modeN {K : Frag} {x qual : Str} {params : Arguments} {body : List Stmt} {scope : Scope} {f : Addr} {fd : FuncData} {ps : List Str} (F : FunD K x qual params body scope [] [] f fd) (n : Nat) (ks : List Str)
    (h : ∀ (kV doc pm : Value) (an : Option Addr) (cdv ct : Value) (us ws : List Value), us.length = n → ws.length = ks.length → bindArgs (fnOf x qual params body scope .none kV doc pm an cdv ct) ⟨us, ks.zip ws⟩ = pure (ps.zip (us ++ (ws ++ [])))) :
    ∃ its : List Value, Vals [] its ∧ ∀ (s : Shared) (us ws : List Value), K.In s.heap → us.length = n → ws.length = ks.length → BindsTo s fd ⟨us, ks.zip ws⟩ (ps.zip (us ++ (ws ++ its))) := by
  obtain ⟨oc, od, dV, kV, doc, pm, an, cdv, ct, osl, rfl, lk, hcd, hD, hK⟩ := F.ex
  rcases hD with ⟨_, rfl⟩ | ⟨e, _⟩
  · exact ⟨[], .nil, fun s us ws _ h1 h2 => .of_eq (h kV doc pm an cdv ct us ws h1 h2)⟩
  · exact absurd rfl e
/-- .. with defaults -/
theorem modeD {K : Frag} {x qual : Str} {params : Arguments} {body : List Stmt} {scope : Scope} {dvs : List V} {f : Addr} {fd : FuncData} {ps : List Str} (F : FunD K x qual params body scope dvs [] f fd) (n : Nat) (ks : List Str) (j : Nat) (hd : dvs ≠ [])
    (h : ∀ (T : Addr) (kV doc pm : Value) (an : Option Addr) (cdv ct : Value) (us ws its : List Value), us.length = n → ws.length = ks.length → its.length = dvs.length →
      ∃ k, bindArgs (fnOf x qual params body scope (.ref T) kV doc pm an cdv ct) ⟨us, ks.zip ws⟩ = seqItems? (.ref T) >>= k ∧ k (some its.toArray) = pure (ps.zip (us ++ (ws ++ its.drop j)))) :
    ∃ its : List Value, Vals (dvs.drop j) its ∧ ∀ (s : Shared) (us ws : List Value), K.In s.heap → us.length = n → ws.length = ks.length → BindsTo s fd ⟨us, ks.zip ws⟩ (ps.zip (us ++ (ws ++ its))) := by
  obtain ⟨oc, od, dV, kV, doc, pm, an, cdv, ct, osl, rfl, lk, hcd, hD, hK⟩ := F.ex
  rcases hD with ⟨e, _⟩ | ⟨_, T, o, its, m, rfl, lT, oT, rT⟩
  · exact absurd e hd
  · refine ⟨its.drop j, rT.drop j, fun s us ws X h1 h2 => ?_⟩
    obtain ⟨k, e1, e2⟩ := h T kV doc pm an cdv ct us ws its h1 h2 rT.length.symm
    refine BindsTo.of_looks fun M => ?_
    rw [e1]
    exact looks_items X lT oT (.of_pure e2)
theorem bindsOf {K : Frag} {fd : FuncData} {ps : List Str} {n : Nat} (hn : n = ps.length) (h : ∃ its : List Value, Vals [] its ∧ ∀ (s : Shared) (us ws : List Value), K.In s.heap → us.length = n → ws.length = ([] : List Str).length → BindsTo s fd ⟨us, ([] : List Str).zip ws⟩ (ps.zip (us ++ (ws ++ its)))) : Binds K fd ps [] := by
  obtain ⟨its, r, h⟩ := h
  cases r
  intro s us X hl
  rw [List.append_nil] at hl ⊢
  have := h s us [] X (hl.trans hn.symm) rfl
  simpa using this
theorem law_sp {K : Frag} {H : Hp} {a : Addr} {ns : List Int} {E : XK} (hl : ns.length ≤ 63) (hS : SqL K H a (ns.map V.int)) : spLaw K [.ref a] H (fun v _ => v = .bl true) E := ⟨a, ns, rfl, hl, hS, fun _ => rfl⟩
def clsBody : Stmt → List Stmt
  | .ClassDef _ _ _ b _ _ _ _ _ _ _ => b
  | _ => []
def inSt (s : Stmt) (i : Nat) : Stmt := (clsBody s).getD i (.Pass ⟨0, 0, 0, 0⟩)
end DE
/-! The plain side: evaluation step by step -/
namespace DE
open PySem
section
variable {Γ : Gam} {ρ : Env} {st : S}
theorem rb_ok {α β : Type} {a : α} {k : α → M β} : Res.bind (.ok a st) k = k a st := rfl
theorem rb_err {α β : Type} {e : Ex} {k : α → M β} : Res.bind (.err e st) k = .err e st := rfl
theorem mb_ap {α β : Type} {m : M α} {k : α → M β} : M.bind m k st = Res.bind (m st) k := rfl
theorem mp_ap {α : Type} {a : α} : M.pure a st = .ok a st := rfl
theorem lift_ap {α : Type} {a : α} : lift (some a) st = .ok a st := rfl
theorem lift_ite {α : Type} {c : Prop} [Decidable c] {a : α} (h : c) : lift (if c then some a else none) st = .ok a st := by rw [if_pos h]; rfl
def andK (m : M D) (x : D) : M D := fun st => match truD x with
  | some true => m st
  | some false => .ok x st
  | none => .stuck
def orK (m : M D) (x : D) : M D := fun st => match truD x with
  | some true => .ok x st
  | some false => m st
  | none => .stuck
def iteK (m n : M D) (x : D) : M D := fun st => match truD x with
  | some true => m st
  | some false => n st
  | none => .stuck
theorem andK_t {m : M D} {x : D} (h : truD x = some true) : andK m x st = m st := by unfold andK; rw [h]
theorem andK_f {m : M D} {x : D} (h : truD x = some false) : andK m x st = .ok x st := by unfold andK; rw [h]
theorem orK_t {m : M D} {x : D} (h : truD x = some true) : orK m x st = .ok x st := by unfold orK; rw [h]
theorem orK_f {m : M D} {x : D} (h : truD x = some false) : orK m x st = m st := by unfold orK; rw [h]
theorem andK_bt {m : M D} : andK m (.bl true) st = m st := rfl
theorem andK_bf {m : M D} : andK m (.bl false) st = .ok (.bl false) st := rfl
theorem orK_bt {m : M D} : orK m (.bl true) st = .ok (.bl true) st := rfl
theorem orK_bf {m : M D} : orK m (.bl false) st = m st := rfl
theorem iteK_bt {m n : M D} : iteK m n (.bl true) st = m st := rfl
theorem iteK_bf {m n : M D} : iteK m n (.bl false) st = n st := rfl
theorem ev_var {i : Nat} : ev Γ (.var i) ρ st = lift (getVar ρ i) st := by simp only [ev]
theorem ev_cst {d : D} : ev Γ (.cst d) ρ st = .ok d st := by simp only [ev] <;> rfl
theorem ev_bin {o : BOp} {a b : C} : ev Γ (.bin o a b) ρ st = Res.bind (ev Γ a ρ st) fun x => M.bind (ev Γ b ρ) fun y => lift (binD o x y) := by simp only [ev] <;> rfl
theorem ev_neg {a : C} : ev Γ (.neg a) ρ st = Res.bind (ev Γ a ρ st) fun x => lift (negD x) := by simp only [ev] <;> rfl
theorem ev_not {a : C} : ev Γ (.not a) ρ st = Res.bind (ev Γ a ρ st) fun x => lift ((truD x).map fun b => .bl (!b)) := by simp only [ev] <;> rfl
theorem ev_cmp {o : COp} {a b : C} : ev Γ (.cmp o a b) ρ st = Res.bind (ev Γ a ρ st) fun x => M.bind (ev Γ b ρ) fun y => lift ((cmpD o x y).map .bl) := by simp only [ev] <;> rfl
def chainK (o p : COp) (mb mc : M D) (x : D) : M D := fun st => Res.bind (mb st) fun y st1 => match cmpD o x y with
  | some true => Res.bind (mc st1) fun z => lift ((cmpD p y z).map .bl)
  | some false => .ok (.bl false) st1
  | none => .stuck
theorem ev_chain {o p : COp} {a b c : C} : ev Γ (.chain o p a b c) ρ st = Res.bind (ev Γ a ρ st) (chainK o p (ev Γ b ρ) (ev Γ c ρ)) := by
  simp only [ev, M.bind]
  cases ev Γ a ρ st with
  | ok x s1 =>
    simp only [Res.bind, chainK, M.bind]
    cases ev Γ b ρ s1 with
    | ok y s2 =>
      simp only [Res.bind]
      cases cmpD o x y with
      | none => rfl
      | some k => cases k <;> rfl
    | err _ _ => rfl
    | stuck => rfl
  | err _ _ => rfl
  | stuck => rfl
theorem ev_and {a b : C} : ev Γ (.and a b) ρ st = Res.bind (ev Γ a ρ st) (andK (ev Γ b ρ)) := by
  simp only [ev, M.bind]
  cases ev Γ a ρ st with
  | ok x s1 =>
    simp only [Res.bind, andK]
    cases truD x with
    | none => rfl
    | some k => cases k <;> rfl
  | err _ _ => rfl
  | stuck => rfl
theorem ev_or {a b : C} : ev Γ (.or a b) ρ st = Res.bind (ev Γ a ρ st) (orK (ev Γ b ρ)) := by
  simp only [ev, M.bind]
  cases ev Γ a ρ st with
  | ok x s1 =>
    simp only [Res.bind, orK]
    cases truD x with
    | none => rfl
    | some k => cases k <;> rfl
  | err _ _ => rfl
  | stuck => rfl
theorem ev_ite {c a b : C} : ev Γ (.ite c a b) ρ st = Res.bind (ev Γ c ρ st) (iteK (ev Γ a ρ) (ev Γ b ρ)) := by
  simp only [ev, M.bind]
  cases ev Γ c ρ st with
  | ok x s1 =>
    simp only [Res.bind, iteK]
    cases truD x with
    | none => rfl
    | some k => cases k <;> rfl
  | err _ _ => rfl
  | stuck => rfl
theorem ev_tup {es : List C} : ev Γ (.tup es) ρ st = Res.bind (evs Γ es ρ st) fun ds => M.pure (.tup ds) := by simp only [ev] <;> rfl
theorem ev_lst {es : List C} : ev Γ (.lst es) ρ st = Res.bind (evs Γ es ρ st) fun ds => M.pure (.lst ds) := by simp only [ev] <;> rfl
theorem ev_idx {a i : C} : ev Γ (.idx a i) ρ st = Res.bind (ev Γ a ρ st) fun x => M.bind (ev Γ i ρ) fun y => idxM x y := by simp only [ev] <;> rfl
theorem ev_slc {a : C} {l h : Option C} : ev Γ (.slc a l h) ρ st = Res.bind (ev Γ a ρ st) fun x => M.bind (evo Γ l ρ) fun l => M.bind (evo Γ h ρ) fun h => lift (slcD x l h) := by simp only [ev] <;> rfl
theorem ev_call {f : Str} {es : List C} : ev Γ (.call f es) ρ st = Res.bind (evs Γ es ρ st) (Γ.fn f) := by simp only [ev] <;> rfl
theorem ev_bi {f : BI} {es : List C} : ev Γ (.bi f es) ρ st = Res.bind (evs Γ es ρ st) fun ds => lift (biD f ds) := by simp only [ev] <;> rfl
theorem ev_isi {a : C} {ts : List Ty} : ev Γ (.isi a ts) ρ st = Res.bind (ev Γ a ρ st) fun x => lift ((isiD x ts).map .bl) := by simp only [ev] <;> rfl
theorem evs_nil : evs Γ [] ρ st = .ok [] st := by simp only [evs] <;> rfl
theorem evs_cons {e : C} {es : List C} : evs Γ (e :: es) ρ st = Res.bind (ev Γ e ρ st) fun x => M.bind (evs Γ es ρ) fun xs => M.pure (x :: xs) := by simp only [evs] <;> rfl
theorem evo_none : evo Γ none ρ st = .ok none st := by simp only [evo] <;> rfl
theorem evo_some {e : C} : evo Γ (some e) ρ st = Res.bind (ev Γ e ρ st) fun x => lift ((isInt x).map some) := by simp only [evo] <;> rfl
/-! statements -/
def nxtS (Γ : Gam) (cs : List CS) : RS → RS
  | .nx ρ st => evSs Γ cs ρ st
  | .ret d st => .ret d st
  | .brk ρ st => .brk ρ st
  | .cont ρ st => .cont ρ st
  | .err e ρ st => .err e ρ st
  | .stuck => .stuck
def selS (Γ : Gam) (a b : List CS) (ρ : Env) (x : D) (st : S) : RS := match truD x with
  | some true => evSs Γ a ρ st
  | some false => evSs Γ b ρ st
  | none => .stuck
theorem evSs_nil : evSs Γ [] ρ st = .nx ρ st := by simp only [evSs]
theorem evSs_cs {c : CS} {cs : List CS} : evSs Γ (c :: cs) ρ st = nxtS Γ cs (evS Γ c ρ st) := by simp only [evSs]; cases evS Γ c ρ st <;> rfl
theorem nxtS_nx {cs : List CS} : nxtS Γ cs (.nx ρ st) = evSs Γ cs ρ st := rfl
theorem nxtS_ret {cs : List CS} {d : D} : nxtS Γ cs (.ret d st) = .ret d st := rfl
theorem nxtS_brk {cs : List CS} : nxtS Γ cs (.brk ρ st) = .brk ρ st := rfl
theorem nxtS_cont {cs : List CS} : nxtS Γ cs (.cont ρ st) = .cont ρ st := rfl
theorem nxtS_err {cs : List CS} {e : Ex} : nxtS Γ cs (.err e ρ st) = .err e ρ st := rfl
theorem bs_ok {α : Type} {a : α} {k : α → S → RS} : bindS (.ok a st) ρ k = k a st := rfl
theorem bs_err {α : Type} {e : Ex} {k : α → S → RS} : bindS (.err e st) ρ k = .err e ρ st := rfl
theorem oo_some {α : Type} {a : α} {k : α → RS} : ofO (some a) k = k a := rfl
theorem selS_t {a b : List CS} : selS Γ a b ρ (.bl true) st = evSs Γ a ρ st := rfl
theorem selS_f {a b : List CS} : selS Γ a b ρ (.bl false) st = evSs Γ b ρ st := rfl
theorem evS_pass : evS Γ .pass ρ st = .nx ρ st := by simp only [evS]
theorem evS_expr {c : C} : evS Γ (.expr c) ρ st = bindS (ev Γ c ρ st) ρ fun _ st' => .nx ρ st' := by simp only [evS]
theorem evS_set {i : Nat} {c : C} : evS Γ (.set (.nm i) c) ρ st = bindS (ev Γ c ρ st) ρ fun d st' => ofO (assign (.nm i) d ρ) fun ρ' => .nx ρ' st' := by simp only [evS]
theorem evS_setT {t : Tg} {c : C} : evS Γ (.set t c) ρ st = bindS (ev Γ c ρ st) ρ fun d st' => ofO (assign t d ρ) fun ρ' => .nx ρ' st' := by simp only [evS]
theorem evS_par {is : List Nat} {cs : List C} : evS Γ (.par is cs) ρ st = bindS (evs Γ cs ρ st) ρ fun ds st' => ofO (setAll is ds ρ) fun ρ' => .nx ρ' st' := by simp only [evS]
theorem evS_ret {c : C} : evS Γ (.ret c) ρ st = bindS (ev Γ c ρ st) ρ fun d st' => .ret d st' := by simp only [evS]
theorem evS_retN : evS Γ .retN ρ st = .ret .non st := by simp only [evS]
theorem evS_brk : evS Γ .brk ρ st = .brk ρ st := by simp only [evS]
theorem evS_cont : evS Γ .cont ρ st = .cont ρ st := by simp only [evS]
theorem evS_ite {c : C} {a b : List CS} : evS Γ (.ite c a b) ρ st = bindS (ev Γ c ρ st) ρ (selS Γ a b ρ) := by
  simp only [evS]
  congr 1
  funext x st'
  unfold selS
  cases truD x with
  | none => rfl
  | some k => cases k <;> rfl
theorem evS_jput {j k v : C} : evS Γ (.jput j k v) ρ st = bindS (ev Γ v ρ st) ρ fun d st1 => bindS (ev Γ j ρ st1) ρ fun o st2 => bindS (ev Γ k ρ st2) ρ fun ix st3 => match o with
    | .jug => ofO (isInt ix) fun n => ofO (L2.ixN st3.length n) fun m => .nx ρ (st3.set m d)
    | _ => .stuck := by simp only [evS] <;> rfl
theorem evS_raise {cls : Str} {es : List C} : evS Γ (.raise cls es) ρ st = bindS (evs Γ es ρ st) ρ fun ds st' => ofO ((Γ.ex cls).bind fun fs => xFields fs ds) fun fs => .err ⟨cls, fs⟩ ρ st' := by simp only [evS]
def loopB (Γ : Gam) (t : Tg) (body : List CS) (x : D) (ρ : Env) (st : S) : RS := ofO (assign t x ρ) fun ρ2 => evSs Γ body ρ2 st
theorem evS_loop {t : Tg} {k : IK} {its : List C} {body : List CS} : evS Γ (.loop t k its body) ρ st = bindS (evs Γ its ρ st) ρ fun ds st' => ofO (itemsD k ds) fun items => forL (loopB Γ t body) items ρ st' := by
  simp only [evS] <;> rfl
def tryK (Γ : Gam) (hs : List Hc) : RS → RS
  | .err e ρ st => handle Γ e ρ st hs
  | .nx ρ st => .nx ρ st
  | .ret d st => .ret d st
  | .brk ρ st => .brk ρ st
  | .cont ρ st => .cont ρ st
  | .stuck => .stuck
theorem evS_try {b : List CS} {hs : List Hc} : evS Γ (.trys b hs) ρ st = tryK Γ hs (evSs Γ b ρ st) := by
  simp only [evS]
  cases evSs Γ b ρ st <;> rfl
def runK : RS → Res D
  | .nx _ st => .ok .non st
  | .ret d st => .ok d st
  | .err e _ st => .err e st
  | _ => .stuck
theorem runF_ap {n : Nat} {body : List CS} {ds : List D} : runF Γ n body ds st = runK (evSs Γ body (ds.map .val ++ List.replicate (n - ds.length) .non) st) := by
  unfold runF runK
  cases evSs Γ body (ds.map .val ++ List.replicate (n - ds.length) .non) st <;> rfl
theorem runK_ret {d : D} : runK (.ret d st) = .ok d st := rfl
theorem runK_nx : runK (.nx ρ st) = .ok .non st := rfl
theorem runK_err {e : Ex} : runK (.err e ρ st) = .err e st := rfl
end
end DE
/-! The plain side: small steps -/
namespace DE
open PySem
/-- it ends by a value -/
def Oks {α : Type} (r : Res α) (Q : α → S → Prop) : Prop := ∃ a st, r = .ok a st ∧ Q a st
theorem oks_ok {α : Type} {a : α} {st : S} {Q : α → S → Prop} : Oks (.ok a st) Q = Q a st := by
  apply propext
  constructor
  · rintro ⟨_, _, e, q⟩; cases e; exact q
  · exact fun q => ⟨_, _, rfl, q⟩
theorem Oks.imp {α : Type} {r : Res α} {Q Q' : α → S → Prop} (h : Oks r Q) (k : ∀ a st, Q a st → Q' a st) : Oks r Q' := by
  obtain ⟨a, st, e, q⟩ := h
  exact ⟨a, st, e, k _ _ q⟩
def Rets (r : RS) (Q : D → S → Prop) : Prop := ∃ d st, r = .ret d st ∧ Q d st
theorem rets_ret {d : D} {st : S} {Q : D → S → Prop} : Rets (.ret d st) Q = Q d st := by
  apply propext
  constructor
  · rintro ⟨_, _, e, q⟩; cases e; exact q
  · exact fun q => ⟨_, _, rfl, q⟩
theorem oks_runK {r : RS} {Q : D → S → Prop} (h : Rets r Q) : Oks (runK r) Q := by
  obtain ⟨d, st, rfl, q⟩ := h
  exact ⟨d, st, rfl, q⟩
theorem gv_z {d : D} {r : Env} : getVar (.val d :: r) 0 = some d := rfl
theorem gv_s {s : Sl} {r : Env} {i : Nat} : getVar (s :: r) (i + 1) = getVar r i := rfl
theorem assignN {i : Nat} {d : D} {ρ : Env} : assign (.nm i) d ρ = if i < ρ.length then some (ρ.set i (.val d)) else none := by simp only [assign]
theorem setAll_nil {ρ : Env} : setAll [] [] ρ = some ρ := by simp only [setAll]
theorem setAll2 {i j : Nat} {a b : D} {ρ : Env} : setAll [i, j] [a, b] ρ = if i < ρ.length then (if j < (ρ.set i (.val a)).length then some ((ρ.set i (.val a)).set j (.val b)) else none) else none := by simp only [setAll]
theorem setAll3 {i j k : Nat} {a b c : D} {ρ : Env} : setAll [i, j, k] [a, b, c] ρ = if i < ρ.length then (if j < (ρ.set i (.val a)).length then (if k < ((ρ.set i (.val a)).set j (.val b)).length then some (((ρ.set i (.val a)).set j (.val b)).set k (.val c)) else none) else none) else none := by simp only [setAll]
theorem bin_add {i j : Int} : binD .add (.int i) (.int j) = some (.int (i + j)) := rfl
theorem bin_sub {i j : Int} : binD .sub (.int i) (.int j) = some (.int (i - j)) := rfl
theorem bin_mul {i j : Int} (h : mulOk i j = true) : binD .mul (.int i) (.int j) = some (.int (i * j)) := by simp only [binD, h, if_true]
theorem bin_fdiv {i j : Int} (h : divOk j = true) : binD .fdiv (.int i) (.int j) = some (.int (i.fdiv j)) := by simp only [binD, h, if_true]
theorem bin_mod {i j : Int} (h : j ≠ 0) : binD .mod (.int i) (.int j) = some (.int (i.fmod j)) := by simp only [binD, decide_eq_true h, if_true]
theorem bin_pow {i j : Int} (h : powOk i j = true) : binD .pow (.int i) (.int j) = some (.int (i ^ j.toNat)) := by simp only [binD, h, if_true]
theorem cmp_lt {i j : Int} : cmpD .lt (.int i) (.int j) = some (decide (i < j)) := rfl
theorem cmp_le {i j : Int} : cmpD .le (.int i) (.int j) = some (decide (i ≤ j)) := rfl
theorem cmp_gt {i j : Int} : cmpD .gt (.int i) (.int j) = some (decide (j < i)) := rfl
theorem cmp_ge {i j : Int} : cmpD .ge (.int i) (.int j) = some (decide (j ≤ i)) := rfl
theorem shaped_int {i : Int} : SeqAt.shaped (.int i) = true := by simp [SeqAt.shaped, PyData.canLay0, PyData.depth]
theorem shaped_bl {i : Bool} : SeqAt.shaped (.bool i) = true := by simp [SeqAt.shaped, PyData.canLay0, PyData.depth]
theorem shaped_non : SeqAt.shaped .none = true := by simp [SeqAt.shaped, PyData.canLay0, PyData.depth]
theorem eqD_of {x y : D} {p q : PyData} (h1 : toPy x = some p) (h2 : toPy y = some q) (h3 : SeqAt.shaped p = true) (h4 : SeqAt.shaped q = true) : eqD x y = some (PyData.eqv p q) := by
  unfold eqD
  rw [h1, h2]
  simp [h3, h4]
theorem eqD_int {i j : Int} : eqD (.int i) (.int j) = some (decide (i = j)) := by
  rw [eqD_of (p := .int i) (q := .int j) (by simp [toPy]) (by simp [toPy]) shaped_int shaped_int]
  simp only [PyData.eqv]
  rfl
theorem cmp_eq {x y : D} (h : isDT x y = false := by rfl) : cmpD .eq x y = eqD x y := by
  have e : cmpD .eq x y = if isDT x y then some false else eqD x y := by cases x <;> cases y <;> simp only [cmpD]
  rw [e, h]
  rfl
theorem isDT_self {x : D} : isDT x x = false := by cases x <;> rfl
theorem cmp_eqi {i j : Int} : cmpD .eq (.int i) (.int j) = some (decide (i = j)) := by rw [cmp_eq]; exact eqD_int
theorem cmp_ne {x y : D} : cmpD .ne x y = (eqD x y).map (!·) := by cases x <;> cases y <;> simp only [cmpD]
theorem cmp_nei {i j : Int} : cmpD .ne (.int i) (.int j) = some (!decide (i = j)) := by rw [cmp_ne, eqD_int]; rfl
theorem cmp_eqb {i j : Bool} : cmpD .eq (.bl i) (.bl j) = some (decide (i = j)) := by
  rw [cmp_eq]
  rw [eqD_of (p := .bool i) (q := .bool j) (by simp [toPy]) (by simp [toPy]) shaped_bl shaped_bl]
  simp only [PyData.eqv]
  cases i <;> cases j <;> rfl
theorem cmp_neb {i j : Bool} : cmpD .ne (.bl i) (.bl j) = some (!decide (i = j)) := by
  rw [cmp_ne]
  have := cmp_eqb (i := i) (j := j)
  have e : eqD (.bl i) (.bl j) = some (decide (i = j)) := by rw [cmp_eq] at this; exact this
  rw [e]; rfl
theorem shaped_str {x : Str} (h : PyData.strOk x = true) : SeqAt.shaped (.str x) = true := by simp [SeqAt.shaped, PyData.canLay0, PyData.depth, h]
theorem eqD_str {x y : Str} (h1 : PyData.strOk x = true) (h2 : PyData.strOk y = true) : eqD (.str x) (.str y) = some (decide (x = y)) := by
  rw [eqD_of (p := .str x) (q := .str y) (by simp [toPy]) (by simp [toPy]) (shaped_str h1) (shaped_str h2)]
  simp only [PyData.eqv]
  by_cases e : x = y
  · subst e; simp
  · simp [e]
theorem eqD_pair {a b c d : Int} : eqD (.tup [.int a, .int b]) (.tup [.int c, .int d]) = some (decide (a = c) && decide (b = d)) := by
  rw [eqD_of (p := .tuple [.int a, .int b]) (q := .tuple [.int c, .int d]) (by simp [toPy, toPys]) (by simp [toPy, toPys]) (by simp [SeqAt.shaped, PyData.canLay0, PyData.canLayAll0, PyData.depth, PyData.depthAll]) (by simp [SeqAt.shaped, PyData.canLay0, PyData.canLayAll0, PyData.depth, PyData.depthAll])]
  simp only [PyData.eqv, PyData.eqvAll, Bool.and_true]
  rfl
theorem toPys_ints : ∀ {cs : List Int}, toPys (cs.map .int) = some (cs.map .int)
  | [] => by simp [toPys]
  | c :: r => by simp [toPys, toPy, toPys_ints (cs := r)]
theorem lay_ints : ∀ {cs : List Int}, PyData.canLayAll0 (cs.map .int) = true ∧ PyData.depthAll (cs.map .int) ≤ 1
  | [] => by simp [PyData.canLayAll0, PyData.depthAll]
  | c :: r => by
    obtain ⟨h1, h2⟩ := lay_ints (cs := r)
    simp [PyData.canLayAll0, PyData.depthAll, PyData.canLay0, PyData.depth, h1]
    omega
theorem eqD_intsN {cs : List Int} : eqD (.lst (cs.map .int)) (.lst []) = some cs.isEmpty := by
  obtain ⟨h1, h2⟩ := lay_ints (cs := cs)
  rw [eqD_of (p := .list (cs.map .int)) (q := .list []) (by simp [toPy, toPys_ints]) (by simp [toPy, toPys]) (by simp [SeqAt.shaped, PyData.canLay0, PyData.depth, h1]; omega) (by simp [SeqAt.shaped, PyData.canLay0, PyData.canLayAll0, PyData.depth, PyData.depthAll])]
  cases cs with
  | nil => simp [PyData.eqv, PyData.eqvAll]
  | cons _ _ => simp [PyData.eqv, PyData.eqvAll]
theorem negD_int {i : Int} : negD (.int i) = some (.int (-i)) := rfl
theorem tru_bl {b : Bool} : truD (.bl b) = some b := rfl
theorem bi_int {i : Int} : biD .int [.int i] = some (.int i) := rfl
theorem bi_bl {i : Bool} : biD .int [.bl i] = some (.int (if i then 1 else 0)) := rfl
theorem bi_abs {i : Int} : biD .abs [.int i] = some (.int (if i < 0 then -i else i)) := rfl
theorem bi_gcd {a b : Int} : biD .gcd [.int a, .int b] = some (.int ((Nat.gcd a.natAbs b.natAbs : Nat) : Int)) := rfl
theorem bi_lenl {xs : List D} : biD .len [.lst xs] = some (.int (xs.length : Nat)) := rfl
theorem bi_lent {xs : List D} : biD .len [.tup xs] = some (.int (xs.length : Nat)) := rfl
theorem isInt_int {i : Int} : isInt (.int i) = some i := rfl
theorem ix_nat {n j : Nat} (h : j < n) : L2.ixN n (j : Int) = some j := by
  unfold L2.ixN
  have h1 : ¬ ((j : Int) < 0) := by omega
  simp [h]
theorem jix {i : Int} {st : S} : idxM .jug (.int i) st = match (L2.ixN st.length i).bind fun j => st[j]? with
    | some d => .ok d st
    | none => .stuck := rfl
theorem idxT0 {a : D} {r : List D} {st : S} : idxM (.tup (a :: r)) (.int 0) st = .ok a st := by
  have h : L2.ixN (a :: r).length 0 = some 0 := by simp [L2.ixN]
  simp only [idxM, idxD, h, Option.bind_some, List.getElem?_cons_zero]; rfl
theorem idxT1 {a b : D} {r : List D} {st : S} : idxM (.tup (a :: b :: r)) (.int 1) st = .ok b st := by
  have h : L2.ixN (a :: b :: r).length 1 = some 1 := by simp [L2.ixN]; omega
  simp only [idxM, idxD, h, Option.bind_some, List.getElem?_cons_succ, List.getElem?_cons_zero]; rfl
theorem idxL0 {a : D} {r : List D} {st : S} : idxM (.lst (a :: r)) (.int 0) st = .ok a st := by
  have h : L2.ixN (a :: r).length 0 = some 0 := by simp [L2.ixN]
  simp only [idxM, idxD, h, Option.bind_some, List.getElem?_cons_zero]; rfl
theorem idxL1 {a b : D} {r : List D} {st : S} : idxM (.lst (a :: b :: r)) (.int 1) st = .ok b st := by
  have h : L2.ixN (a :: b :: r).length 1 = some 1 := by simp [L2.ixN]; omega
  simp only [idxM, idxD, h, Option.bind_some, List.getElem?_cons_succ, List.getElem?_cons_zero]; rfl
theorem mulOk_l {i j : Int} (h : i.natAbs < 2 ^ 64) : mulOk i j = true := by unfold mulOk; simp [h]
theorem mulOk_r {i j : Int} (h : j.natAbs < 2 ^ 64) : mulOk i j = true := by unfold mulOk; simp [h]
theorem log2_lt {n k : Nat} (hk : 0 < k) (h : n < 2 ^ k) : n.log2 < k := PySem.Flt.log2_lt_of hk h
theorem mulOk_b {i j : Int} {a b : Nat} (ha : i.natAbs < 2 ^ a) (hb : j.natAbs < 2 ^ b) (h0 : 0 < a) (h1 : 0 < b) (h : a + b ≤ 1000000) : mulOk i j = true := by
  have x := log2_lt h0 ha
  have y := log2_lt h1 hb
  unfold mulOk
  have : decide (i.natAbs.log2 + j.natAbs.log2 < 1000000) = true := decide_eq_true (by omega)
  simp [this]
theorem divOk_b {j : Int} {b : Nat} (hj : j ≠ 0) (hb : j.natAbs < 2 ^ b) (h0 : 0 < b) (h : b ≤ 9000) : divOk j = true := by
  have x := log2_lt h0 hb
  unfold divOk
  simp only [Bool.and_eq_true, decide_eq_true_eq]
  exact ⟨hj, by omega⟩
end DE
/-! The plain side: what draws -/
namespace DE
open PySem
/-- the drawing list: the cells, how many were begun, what is left of a great one -/
def JS (n : Nat) (st : S) : Prop := ∃ (cs : List Int) (at_ rest : Int), st = [.lst (cs.map .int), .int at_, .int rest] ∧ 0 ≤ at_ ∧ at_ ≤ n ∧ 0 ≤ rest
theorem JS.mono {n m : Nat} {st : S} (h : JS n st) (k : n ≤ m) : JS m st := by
  obtain ⟨cs, a, r, e, h1, h2, h3⟩ := h
  exact ⟨cs, a, r, e, h1, by omega, h3⟩
/-- the last part: the cell mixed -/
def mixCS (m1 b1 b2 m2 c1 a3 b3 m3 dv : Int) : List CS := [(.set (.nm 4) (.bin .mod (.bi .int [(.bin .pow (.bin .add (.bin .add (.bin .mod (.bi .int [(.var 3)]) (.cst (.int m1))) (.bin .mul (.cst (.int b1)) (.var 2))) (.cst (.int b2))) (.cst (.int 5)))]) (.cst (.int m2)))), (.set (.nm 4) (.bin .mod (.bi .int [(.bin .pow (.bin .add (.bin .add (.bin .mul (.var 4) (.bin .add (.bin .mul (.cst (.int 2)) (.var 2)) (.cst (.int c1)))) (.bin .mul (.bin .mul (.cst (.int a3)) (.var 2)) (.var 2))) (.cst (.int b3))) (.cst (.int 3)))]) (.cst (.int m3)))), (.ret (.bin .mod (.bi .int [(.bin .fdiv (.var 4) (.cst (.int dv)))]) (.var 1)))]
/-- the part that looks whether the cell is great -/
def greatCS (m1 b1 b2 m2 c1 a3 b3 m3 dv : Int) : List CS := (.ite (.and (.cmp .lt (.var 2) (.bi .len [(.idx (.var 0) (.cst (.int 0)))])) (.cmp .ge (.bi .abs [(.var 3)]) (.bin .pow (.cst (.int 10)) (.cst (.int 18))))) [(.set (.nm 5) (.bin .add (.bin .mul (.cst (.int 2)) (.bin .sub (.bi .abs [(.var 3)]) (.bin .pow (.cst (.int 10)) (.cst (.int 18))))) (.bi .int [(.cmp .lt (.var 3) (.cst (.int 0)))]))), (.jput (.var 0) (.cst (.int 2)) (.bin .fdiv (.bi .int [(.var 5)]) (.var 1))), (.ret (.bin .mod (.bi .int [(.var 5)]) (.var 1)))] []) :: mixCS m1 b1 b2 m2 c1 a3 b3 m3 dv
def spillCS (a1 a2 m1 b1 b2 m2 c1 a3 b3 m3 dv : Int) : List CS := (.ite (.cmp .gt (.idx (.var 0) (.cst (.int 2))) (.cst (.int 0))) [(.set (.nm 5) (.bi .int [(.idx (.var 0) (.cst (.int 2)))])), (.jput (.var 0) (.cst (.int 2)) (.bin .fdiv (.var 5) (.var 1))), (.ret (.bin .mod (.bi .int [(.var 5)]) (.var 1)))] []) :: (.set (.nm 2) (.idx (.var 0) (.cst (.int 1)))) :: (.jput (.var 0) (.cst (.int 1)) (.bin .add (.var 2) (.cst (.int 1)))) :: (.set (.nm 3) (.bin .add (.bin .mul (.cst (.int a1)) (.var 2)) (.cst (.int a2)))) :: (.ite (.cmp .ne (.idx (.var 0) (.cst (.int 0))) (.lst [])) [(.set (.nm 3) (.idx (.idx (.var 0) (.cst (.int 0))) (.bin .mod (.bi .int [(.var 2)]) (.bi .len [(.idx (.var 0) (.cst (.int 0)))]))))] []) :: greatCS m1 b1 b2 m2 c1 a3 b3 m3 dv
theorem fmod_lt {a b : Int} (h : 0 < b) : 0 ≤ a.fmod b ∧ a.fmod b < b := by
  rw [Int.fmod_eq_emod_of_nonneg a (by omega)]
  exact ⟨Int.emod_nonneg a (by omega), Int.emod_lt_of_pos a h⟩
theorem fdiv_nn {a b : Int} (h : 0 < b) (ha : 0 ≤ a) : 0 ≤ a.fdiv b := by
  rw [Int.fdiv_eq_ediv_of_nonneg a (by omega)]
  exact Int.ediv_nonneg ha (by omega)
section
variable {Γ : Gam} {a1 a2 m1 b1 b2 m2 c1 a3 b3 m3 dv : Int}
theorem ix3_0 : L2.ixN 3 0 = some 0 := by decide
theorem ix3_1 : L2.ixN 3 1 = some 1 := by decide
theorem ix3_2 : L2.ixN 3 2 = some 2 := by decide
theorem spill_left {cs : List Int} {at_ rest many : Int} (hr : 0 < rest) (h1 : 1 ≤ many) (h2 : many.natAbs.log2 < 9000) :
    runF Γ 6 (spillCS a1 a2 m1 b1 b2 m2 c1 a3 b3 m3 dv) [.jug, .int many] [.lst (cs.map .int), .int at_, .int rest] = .ok (.int (rest.fmod many)) [.lst (cs.map .int), .int at_, .int (rest.fdiv many)] := by
  have hd : divOk many = true := by unfold divOk; simp; omega
  have hm : many ≠ 0 := by omega
  have hg : decide (0 < rest) = true := by simpa using hr
  simp only [spillCS, runF_ap, runK_ret, runK_nx, runK_err, evSs_cs, evSs_nil, nxtS_nx, nxtS_ret, nxtS_err, nxtS_brk, nxtS_cont, bs_ok, bs_err, oo_some, selS_t, selS_f, evS_pass, evS_expr, evS_set, evS_par, evS_ret, evS_retN, evS_brk, evS_cont, evS_ite, evS_jput, evS_raise, evS_try, tryK, ev_var, ev_cst, ev_bin, ev_neg, ev_not, ev_cmp, ev_chain, ev_and, ev_or, ev_ite, ev_tup, ev_lst, ev_idx, ev_slc, ev_call, ev_bi, ev_isi, evs_nil, evs_cons, evo_none, evo_some, andK_bt, andK_bf, orK_bt, orK_bf, iteK_bt, iteK_bf, rb_ok, rb_err, mb_ap, mp_ap, lift_ap, gv_z, gv_s, List.map_cons, List.map_nil, List.length_cons, List.length_nil, List.length_set, List.replicate, List.cons_append, List.nil_append, Nat.reduceAdd, Nat.reduceSub, List.set_cons_zero, List.set_cons_succ, List.getElem?_cons_succ, List.getElem?_cons_zero, Option.map_some, Option.bind_some, assignN, setAll2, setAll3, setAll_nil, bin_add, bin_sub, bin_mul, bin_fdiv, bin_mod, bin_pow, cmp_lt, cmp_le, cmp_gt, cmp_ge, cmp_eqi, cmp_nei, negD_int, tru_bl, bi_int, bi_bl, bi_abs, bi_gcd, bi_lenl, bi_lent, isInt_int, jix, idxT0, idxT1, idxL0, idxL1, decide_true, decide_false, Bool.not_true, Bool.not_false, handle, ix3_2, hg, hd, hm, ne_eq, not_false_eq_true, Nat.lt_add_left_iff_pos, Nat.reduceLT, if_true, if_false]
/-- what is drawn: the constants' bounds -/
structure DrawC (a1 a2 m1 b1 b2 m2 c1 a3 b3 m3 dv : Int) : Prop where
  a1 : 0 ≤ a1 ∧ a1 < 2 ^ 20
  a2 : 0 ≤ a2 ∧ a2 < 2 ^ 20
  m1 : 0 < m1 ∧ m1 < 2 ^ 32
  b1 : 0 ≤ b1 ∧ b1 < 2 ^ 20
  b2 : 0 ≤ b2 ∧ b2 < 2 ^ 20
  m2 : 0 < m2 ∧ m2 < 2 ^ 32
  c1 : 0 ≤ c1 ∧ c1 < 2 ^ 20
  a3 : 0 ≤ a3 ∧ a3 < 2 ^ 20
  b3 : 0 ≤ b3 ∧ b3 < 2 ^ 20
  m3 : 0 < m3 ∧ m3 < 2 ^ 32
  dv : 0 < dv ∧ dv < 2 ^ 20
theorem idx_ints {cs : List Int} {i : Int} {st : S} (h0 : 0 ≤ i) (h : i < (cs.length : Nat)) : ∃ c, idxM (.lst (cs.map .int)) (.int i) st = .ok (.int c) st := by
  obtain ⟨j, rfl⟩ := Int.eq_ofNat_of_zero_le h0
  have hj : j < cs.length := by omega
  have e : L2.ixN (cs.map D.int).length (j : Int) = some j := ix_nat (by simpa using hj)
  refine ⟨cs[j], ?_⟩
  have e2 : (cs.map D.int)[j]? = some (.int cs[j]) := by simp [hj]
  simp only [idxM, idxD, e, Option.bind_some, e2]
  rfl
theorem pow18 : powOk 10 18 = true := by decide
theorem mix_ok (K : DrawC a1 a2 m1 b1 b2 m2 c1 a3 b3 m3 dv) {at_ cell many : Int} {x4 x5 : Sl} {st : S} (h0 : 0 ≤ at_) (hn : at_ ≤ 1000000) (h1 : 1 ≤ many) :
    Rets (evSs Γ (mixCS m1 b1 b2 m2 c1 a3 b3 m3 dv) [.val .jug, .val (.int many), .val (.int at_), .val (.int cell), x4, x5] st) fun d st' => ∃ r, d = .int r ∧ st' = st ∧ 0 ≤ r ∧ r < many := by
  obtain ⟨⟨p1, p2⟩, ⟨p3, p4⟩, ⟨p5, p6⟩, ⟨p7, p8⟩, ⟨p9, p10⟩, ⟨p11, p12⟩, ⟨p13, p14⟩, ⟨p15, p16⟩, ⟨p17, p18⟩, ⟨p19, p20⟩, ⟨p21, p22⟩⟩ := K
  have hm : many ≠ 0 := by omega
  have n1 : m1 ≠ 0 := by omega
  have n2 : m2 ≠ 0 := by omega
  have n3 : m3 ≠ 0 := by omega
  have hdv : divOk dv = true := divOk_b (b := 20) (by omega) (by omega) (by omega) (by omega)
  have q1 : ∀ x, mulOk b1 x = true := fun x => mulOk_l (by omega)
  have q2 : ∀ x, mulOk 2 x = true := fun x => mulOk_l (by decide)
  have q3 : ∀ x, mulOk a3 x = true := fun x => mulOk_l (by omega)
  have q4 : ∀ x, mulOk x at_ = true := fun x => mulOk_r (by omega)
  have q5 : ∀ x, mulOk x (2 * at_ + c1) = true := fun x => mulOk_r (by omega)
  have b5 : b1 * at_ ≤ 2 ^ 20 * 2 ^ 20 := Int.mul_le_mul (by omega) (by omega) h0 (by omega)
  have b5' : 0 ≤ b1 * at_ := Int.mul_nonneg p7 h0
  have q6 : ∀ c : Int, powOk (c.fmod m1 + b1 * at_ + b2) 5 = true := fun c => by
    obtain ⟨u, v⟩ := fmod_lt (a := c) p5
    unfold powOk
    simp only [Bool.and_eq_true, decide_eq_true_eq]
    omega
  have c5 : a3 * at_ ≤ 2 ^ 20 * 2 ^ 20 := Int.mul_le_mul (by omega) (by omega) h0 (by omega)
  have c5' : 0 ≤ a3 * at_ := Int.mul_nonneg p15 h0
  have c6 : a3 * at_ * at_ ≤ (2 ^ 20 * 2 ^ 20) * 2 ^ 20 := Int.mul_le_mul c5 (by omega) h0 (by omega)
  have c6' : 0 ≤ a3 * at_ * at_ := Int.mul_nonneg c5' h0
  have q7 : ∀ c : Int, powOk (c.fmod m2 * (2 * at_ + c1) + a3 * at_ * at_ + b3) 3 = true := fun c => by
    obtain ⟨u, v⟩ := fmod_lt (a := c) p11
    have d1 : c.fmod m2 * (2 * at_ + c1) ≤ 2 ^ 32 * 2 ^ 22 := Int.mul_le_mul (by omega) (by omega) (by omega) (by omega)
    have d2 : 0 ≤ c.fmod m2 * (2 * at_ + c1) := Int.mul_nonneg u (by omega)
    unfold powOk
    simp only [Bool.and_eq_true, decide_eq_true_eq]
    omega
  simp only [mixCS, runF_ap, runK_ret, runK_nx, runK_err, evSs_cs, evSs_nil, nxtS_nx, nxtS_ret, nxtS_err, nxtS_brk, nxtS_cont, bs_ok, bs_err, oo_some, selS_t, selS_f, evS_pass, evS_expr, evS_set, evS_par, evS_ret, evS_retN, evS_brk, evS_cont, evS_ite, evS_jput, evS_raise, evS_try, tryK, ev_var, ev_cst, ev_bin, ev_neg, ev_not, ev_cmp, ev_chain, ev_and, ev_or, ev_ite, ev_tup, ev_lst, ev_idx, ev_slc, ev_call, ev_bi, ev_isi, evs_nil, evs_cons, evo_none, evo_some, andK_bt, andK_bf, orK_bt, orK_bf, iteK_bt, iteK_bf, rb_ok, rb_err, mb_ap, mp_ap, lift_ap, gv_z, gv_s, List.map_cons, List.map_nil, List.length_cons, List.length_nil, List.length_set, List.replicate, List.cons_append, List.nil_append, Nat.reduceAdd, Nat.reduceSub, List.set_cons_zero, List.set_cons_succ, List.getElem?_cons_succ, List.getElem?_cons_zero, Option.map_some, Option.bind_some, assignN, setAll2, setAll3, setAll_nil, bin_add, bin_sub, bin_mul, bin_fdiv, bin_mod, bin_pow, cmp_lt, cmp_le, cmp_gt, cmp_ge, cmp_eqi, cmp_nei, negD_int, tru_bl, bi_int, bi_bl, bi_abs, bi_gcd, bi_lenl, bi_lent, isInt_int, jix, idxT0, idxT1, idxL0, idxL1, decide_true, decide_false, Bool.not_true, Bool.not_false, handle, rets_ret, hm, n1, n2, n3, hdv, q1, q2, q3, q4, q5, q6, q7, ne_eq, not_false_eq_true, Nat.reduceLT, if_true, if_false]
  exact ⟨_, rfl, trivial, fmod_lt (by omega)⟩
theorem great_ok (K : DrawC a1 a2 m1 b1 b2 m2 c1 a3 b3 m3 dv) {cs : List Int} {at_ rest cell many : Int} (h0 : 0 ≤ at_) (hn : at_ ≤ 1000000) (h1 : 1 ≤ many) (h2 : many.natAbs.log2 < 9000) (h3 : 0 ≤ rest) :
    Rets (evSs Γ (greatCS m1 b1 b2 m2 c1 a3 b3 m3 dv) [.val .jug, .val (.int many), .val (.int at_), .val (.int cell), .non, .non] [.lst (cs.map .int), .int (at_ + 1), .int rest])
      fun d st' => ∃ r rest', d = .int r ∧ st' = [.lst (cs.map .int), .int (at_ + 1), .int rest'] ∧ 0 ≤ rest' ∧ 0 ≤ r ∧ r < many := by
  have hd : divOk many = true := by unfold divOk; simp; omega
  have hm : many ≠ 0 := by omega
  have q2 : ∀ x, mulOk 2 x = true := fun x => mulOk_l (by decide)
  have mix : Rets (evSs Γ (mixCS m1 b1 b2 m2 c1 a3 b3 m3 dv) [.val .jug, .val (.int many), .val (.int at_), .val (.int cell), .non, .non] [.lst (cs.map .int), .int (at_ + 1), .int rest])
      fun d st' => ∃ r rest', d = .int r ∧ st' = [.lst (cs.map .int), .int (at_ + 1), .int rest'] ∧ 0 ≤ rest' ∧ 0 ≤ r ∧ r < many := by
    obtain ⟨d, st', e, r, rfl, rfl, q⟩ := mix_ok (Γ := Γ) K (x4 := .non) (x5 := .non) (cell := cell) (st := [.lst (cs.map .int), .int (at_ + 1), .int rest]) h0 hn h1
    exact ⟨_, _, e, r, rest, rfl, rfl, h3, q⟩
  by_cases g1 : at_ < ((cs.map D.int).length : Nat)
  · have g1' : decide (at_ < (((cs.map D.int).length : Nat) : Int)) = true := by simpa using g1
    by_cases g2 : (10 : Int) ^ (18 : Int).toNat ≤ (if cell < 0 then -cell else cell)
    · have g2' : decide ((10 : Int) ^ (18 : Int).toNat ≤ (if cell < 0 then -cell else cell)) = true := by simpa using g2
      simp only [greatCS, runF_ap, runK_ret, runK_nx, runK_err, evSs_cs, evSs_nil, nxtS_nx, nxtS_ret, nxtS_err, nxtS_brk, nxtS_cont, bs_ok, bs_err, oo_some, selS_t, selS_f, evS_pass, evS_expr, evS_set, evS_par, evS_ret, evS_retN, evS_brk, evS_cont, evS_ite, evS_jput, evS_raise, evS_try, tryK, ev_var, ev_cst, ev_bin, ev_neg, ev_not, ev_cmp, ev_chain, ev_and, ev_or, ev_ite, ev_tup, ev_lst, ev_idx, ev_slc, ev_call, ev_bi, ev_isi, evs_nil, evs_cons, evo_none, evo_some, andK_bt, andK_bf, orK_bt, orK_bf, iteK_bt, iteK_bf, rb_ok, rb_err, mb_ap, mp_ap, lift_ap, gv_z, gv_s, List.map_cons, List.map_nil, List.length_cons, List.length_nil, List.length_set, List.replicate, List.cons_append, List.nil_append, Nat.reduceAdd, Nat.reduceSub, List.set_cons_zero, List.set_cons_succ, List.getElem?_cons_succ, List.getElem?_cons_zero, Option.map_some, Option.bind_some, assignN, setAll2, setAll3, setAll_nil, bin_add, bin_sub, bin_mul, bin_fdiv, bin_mod, bin_pow, cmp_lt, cmp_le, cmp_gt, cmp_ge, cmp_eqi, cmp_nei, negD_int, tru_bl, bi_int, bi_bl, bi_abs, bi_gcd, bi_lenl, bi_lent, isInt_int, jix, idxT0, idxT1, idxL0, idxL1, decide_true, decide_false, Bool.not_true, Bool.not_false, handle, rets_ret, ix3_0, ix3_1, ix3_2, g1', g2', hd, hm, pow18, q2, ne_eq, not_false_eq_true, Nat.reduceLT, if_true, if_false]
      refine ⟨_, _, rfl, rfl, fdiv_nn (by omega) ?_, fmod_lt (by omega)⟩
      split <;> split at g2 <;> omega
    · have g2' : decide ((10 : Int) ^ (18 : Int).toNat ≤ (if cell < 0 then -cell else cell)) = false := by simpa using g2
      simp only [greatCS, runF_ap, runK_ret, runK_nx, runK_err, evSs_cs, evSs_nil, nxtS_nx, nxtS_ret, nxtS_err, nxtS_brk, nxtS_cont, bs_ok, bs_err, oo_some, selS_t, selS_f, evS_pass, evS_expr, evS_set, evS_par, evS_ret, evS_retN, evS_brk, evS_cont, evS_ite, evS_jput, evS_raise, evS_try, tryK, ev_var, ev_cst, ev_bin, ev_neg, ev_not, ev_cmp, ev_chain, ev_and, ev_or, ev_ite, ev_tup, ev_lst, ev_idx, ev_slc, ev_call, ev_bi, ev_isi, evs_nil, evs_cons, evo_none, evo_some, andK_bt, andK_bf, orK_bt, orK_bf, iteK_bt, iteK_bf, rb_ok, rb_err, mb_ap, mp_ap, lift_ap, gv_z, gv_s, List.map_cons, List.map_nil, List.length_cons, List.length_nil, List.length_set, List.replicate, List.cons_append, List.nil_append, Nat.reduceAdd, Nat.reduceSub, List.set_cons_zero, List.set_cons_succ, List.getElem?_cons_succ, List.getElem?_cons_zero, Option.map_some, Option.bind_some, assignN, setAll2, setAll3, setAll_nil, bin_add, bin_sub, bin_mul, bin_fdiv, bin_mod, bin_pow, cmp_lt, cmp_le, cmp_gt, cmp_ge, cmp_eqi, cmp_nei, negD_int, tru_bl, bi_int, bi_bl, bi_abs, bi_gcd, bi_lenl, bi_lent, isInt_int, jix, idxT0, idxT1, idxL0, idxL1, decide_true, decide_false, Bool.not_true, Bool.not_false, handle, ix3_0, g1', g2', pow18, ne_eq, not_false_eq_true, Nat.reduceLT, if_true, if_false]
      exact mix
  · have g1' : decide (at_ < (((cs.map D.int).length : Nat) : Int)) = false := by simpa using g1
    simp only [greatCS, runF_ap, runK_ret, runK_nx, runK_err, evSs_cs, evSs_nil, nxtS_nx, nxtS_ret, nxtS_err, nxtS_brk, nxtS_cont, bs_ok, bs_err, oo_some, selS_t, selS_f, evS_pass, evS_expr, evS_set, evS_par, evS_ret, evS_retN, evS_brk, evS_cont, evS_ite, evS_jput, evS_raise, evS_try, tryK, ev_var, ev_cst, ev_bin, ev_neg, ev_not, ev_cmp, ev_chain, ev_and, ev_or, ev_ite, ev_tup, ev_lst, ev_idx, ev_slc, ev_call, ev_bi, ev_isi, evs_nil, evs_cons, evo_none, evo_some, andK_bt, andK_bf, orK_bt, orK_bf, iteK_bt, iteK_bf, rb_ok, rb_err, mb_ap, mp_ap, lift_ap, gv_z, gv_s, List.map_cons, List.map_nil, List.length_cons, List.length_nil, List.length_set, List.replicate, List.cons_append, List.nil_append, Nat.reduceAdd, Nat.reduceSub, List.set_cons_zero, List.set_cons_succ, List.getElem?_cons_succ, List.getElem?_cons_zero, Option.map_some, Option.bind_some, assignN, setAll2, setAll3, setAll_nil, bin_add, bin_sub, bin_mul, bin_fdiv, bin_mod, bin_pow, cmp_lt, cmp_le, cmp_gt, cmp_ge, cmp_eqi, cmp_nei, negD_int, tru_bl, bi_int, bi_bl, bi_abs, bi_gcd, bi_lenl, bi_lent, isInt_int, jix, idxT0, idxT1, idxL0, idxL1, decide_true, decide_false, Bool.not_true, Bool.not_false, handle, ix3_0, g1', Nat.reduceLT, if_true, if_false]
    exact mix
theorem spill_ok (K : DrawC a1 a2 m1 b1 b2 m2 c1 a3 b3 m3 dv) {n : Nat} {st : S} {many : Int} (J : JS n st) (hn : n ≤ 1000000) (h1 : 1 ≤ many) (h2 : many.natAbs.log2 < 9000) :
    Oks (runF Γ 6 (spillCS a1 a2 m1 b1 b2 m2 c1 a3 b3 m3 dv) [.jug, .int many] st) fun d st' => ∃ r, d = .int r ∧ 0 ≤ r ∧ r < many ∧ JS (n + 1) st' := by
  obtain ⟨cs, at_, rest, rfl, j1, j2, j3⟩ := J
  by_cases hr : 0 < rest
  · refine ⟨_, _, spill_left hr h1 h2, _, rfl, ?_, ?_, cs, at_, _, rfl, j1, by omega, fdiv_nn (by omega) j3⟩
    · exact (fmod_lt (by omega)).1
    · exact (fmod_lt (by omega)).2
  · have hg : decide (0 < rest) = false := by simpa using hr
    have q1 : ∀ x, mulOk a1 x = true := fun x => mulOk_l (by have := K.a1; omega)
    have fin : ∀ cell : Int, Oks (runK (evSs Γ (greatCS m1 b1 b2 m2 c1 a3 b3 m3 dv) [.val .jug, .val (.int many), .val (.int at_), .val (.int cell), .non, .non] [.lst (cs.map .int), .int (at_ + 1), .int rest])) fun d st' => ∃ r, d = .int r ∧ 0 ≤ r ∧ r < many ∧ JS (n + 1) st' := fun cell => by
      obtain ⟨d, st', e, r, rest', rfl, rfl, w1, w2, w3⟩ := great_ok (Γ := Γ) K (cs := cs) (cell := cell) j1 (by omega) h1 h2 j3
      rw [e]
      exact ⟨_, _, rfl, r, rfl, w2, w3, cs, _, rest', rfl, by omega, by omega, w1⟩
    by_cases hc : cs = []
    · have hc' : cs.isEmpty = true := by simp [hc]
      simp only [spillCS, runF_ap, runK_ret, runK_nx, runK_err, evSs_cs, evSs_nil, nxtS_nx, nxtS_ret, nxtS_err, nxtS_brk, nxtS_cont, bs_ok, bs_err, oo_some, selS_t, selS_f, evS_pass, evS_expr, evS_set, evS_par, evS_ret, evS_retN, evS_brk, evS_cont, evS_ite, evS_jput, evS_raise, evS_try, tryK, ev_var, ev_cst, ev_bin, ev_neg, ev_not, ev_cmp, ev_chain, ev_and, ev_or, ev_ite, ev_tup, ev_lst, ev_idx, ev_slc, ev_call, ev_bi, ev_isi, evs_nil, evs_cons, evo_none, evo_some, andK_bt, andK_bf, orK_bt, orK_bf, iteK_bt, iteK_bf, rb_ok, rb_err, mb_ap, mp_ap, lift_ap, gv_z, gv_s, List.map_cons, List.map_nil, List.length_cons, List.length_nil, List.length_set, List.replicate, List.cons_append, List.nil_append, Nat.reduceAdd, Nat.reduceSub, List.set_cons_zero, List.set_cons_succ, List.getElem?_cons_succ, List.getElem?_cons_zero, Option.map_some, Option.bind_some, assignN, setAll2, setAll3, setAll_nil, bin_add, bin_sub, bin_mul, bin_fdiv, bin_mod, bin_pow, cmp_lt, cmp_le, cmp_gt, cmp_ge, cmp_eqi, cmp_nei, negD_int, tru_bl, bi_int, bi_bl, bi_abs, bi_gcd, bi_lenl, bi_lent, isInt_int, jix, idxT0, idxT1, idxL0, idxL1, decide_true, decide_false, Bool.not_true, Bool.not_false, handle, cmp_ne, eqD_intsN, hc', ix3_0, ix3_1, ix3_2, hg, q1, Nat.reduceLT, if_true, if_false]
      exact fin _
    · have hc' : cs.isEmpty = false := by simpa using hc
      have hpos : 0 < cs.length := List.length_pos_iff.mpr hc
      have hlen : (((cs.map D.int).length : Nat) : Int) ≠ 0 := by simp; exact hc
      obtain ⟨u, v⟩ := fmod_lt (a := at_) (b := (((cs.map D.int).length : Nat) : Int)) (by simp; omega)
      obtain ⟨c, ec⟩ := idx_ints (cs := cs) (st := [.lst (cs.map .int), .int (at_ + 1), .int rest]) u (by simpa using v)
      simp only [spillCS, runF_ap, runK_ret, runK_nx, runK_err, evSs_cs, evSs_nil, nxtS_nx, nxtS_ret, nxtS_err, nxtS_brk, nxtS_cont, bs_ok, bs_err, oo_some, selS_t, selS_f, evS_pass, evS_expr, evS_set, evS_par, evS_ret, evS_retN, evS_brk, evS_cont, evS_ite, evS_jput, evS_raise, evS_try, tryK, ev_var, ev_cst, ev_bin, ev_neg, ev_not, ev_cmp, ev_chain, ev_and, ev_or, ev_ite, ev_tup, ev_lst, ev_idx, ev_slc, ev_call, ev_bi, ev_isi, evs_nil, evs_cons, evo_none, evo_some, andK_bt, andK_bf, orK_bt, orK_bf, iteK_bt, iteK_bf, rb_ok, rb_err, mb_ap, mp_ap, lift_ap, gv_z, gv_s, List.map_cons, List.map_nil, List.length_cons, List.length_nil, List.length_set, List.replicate, List.cons_append, List.nil_append, Nat.reduceAdd, Nat.reduceSub, List.set_cons_zero, List.set_cons_succ, List.getElem?_cons_succ, List.getElem?_cons_zero, Option.map_some, Option.bind_some, assignN, setAll2, setAll3, setAll_nil, bin_add, bin_sub, bin_mul, bin_fdiv, bin_mod, bin_pow, cmp_lt, cmp_le, cmp_gt, cmp_ge, cmp_eqi, cmp_nei, negD_int, tru_bl, bi_int, bi_bl, bi_abs, bi_gcd, bi_lenl, bi_lent, isInt_int, jix, idxT0, idxT1, idxL0, idxL1, decide_true, decide_false, Bool.not_true, Bool.not_false, handle, cmp_ne, eqD_intsN, hc', ix3_0, ix3_1, ix3_2, hg, q1, hlen, ec, ne_eq, not_false_eq_true, Nat.reduceLT, if_true, if_false]
      exact fin _
end
end DE
/-! The plain side: Euclid in 400 turns -/
namespace DE
open PySem
def sharedB : List CS := [(.ite (.cmp .eq (.var 4) (.cst (.int 0))) [.brk] []), (.par [3, 4] [(.var 4), (.bin .mod (.bi .int [(.var 3)]) (.var 4))])]
def sharedCS : List CS := [(.par [3, 4] [(.bi .abs [(.var 0)]), (.bi .abs [(.var 1)])]), (.loop (.nm 2) .rng [(.cst (.int 400))] sharedB), (.ret (.var 3))]
theorem fmod_nat (a b : Nat) : (a : Int).fmod (b : Int) = ((a % b : Nat) : Int) := by
  rw [Int.fmod_eq_emod_of_nonneg (a : Int) (by omega)]
  rfl
section
variable {Γ : Gam}
abbrev shE (x y t : Sl) (a b : Nat) : Env := [x, y, t, .val (.int (a : Int)), .val (.int (b : Int))]
theorem shared_brk {x y t : Sl} {a : Nat} {i : Int} {st : S} : loopB Γ (.nm 2) sharedB (.int i) (shE x y t a 0) st = .brk (shE x y (.val (.int i)) a 0) st := by
  simp only [loopB, sharedB, shE, runF_ap, runK_ret, runK_nx, runK_err, evSs_cs, evSs_nil, nxtS_nx, nxtS_ret, nxtS_err, nxtS_brk, nxtS_cont, bs_ok, bs_err, oo_some, selS_t, selS_f, evS_pass, evS_expr, evS_set, evS_par, evS_ret, evS_retN, evS_brk, evS_cont, evS_ite, evS_jput, evS_raise, evS_try, tryK, ev_var, ev_cst, ev_bin, ev_neg, ev_not, ev_cmp, ev_chain, ev_and, ev_or, ev_ite, ev_tup, ev_lst, ev_idx, ev_slc, ev_call, ev_bi, ev_isi, evs_nil, evs_cons, evo_none, evo_some, andK_bt, andK_bf, orK_bt, orK_bf, iteK_bt, iteK_bf, rb_ok, rb_err, mb_ap, mp_ap, lift_ap, gv_z, gv_s, List.map_cons, List.map_nil, List.length_cons, List.length_nil, List.length_set, List.replicate, List.cons_append, List.nil_append, Nat.reduceAdd, Nat.reduceSub, List.set_cons_zero, List.set_cons_succ, List.getElem?_cons_succ, List.getElem?_cons_zero, Option.map_some, Option.bind_some, assignN, setAll2, setAll3, setAll_nil, bin_add, bin_sub, bin_mul, bin_fdiv, bin_mod, bin_pow, cmp_lt, cmp_le, cmp_gt, cmp_ge, cmp_eqi, cmp_nei, negD_int, tru_bl, bi_int, bi_bl, bi_abs, bi_gcd, bi_lenl, bi_lent, isInt_int, jix, idxT0, idxT1, idxL0, idxL1, decide_true, decide_false, Bool.not_true, Bool.not_false, handle, Nat.reduceLT, if_true, if_false, Int.ofNat_zero]
theorem shared_stp {x y t : Sl} {a b : Nat} {i : Int} {st : S} (h : 0 < b) : loopB Γ (.nm 2) sharedB (.int i) (shE x y t a b) st = .nx (shE x y (.val (.int i)) b (a % b)) st := by
  have hb : decide ((b : Int) = 0) = false := by simp; omega
  have hb' : (b : Int) ≠ 0 := by omega
  simp only [loopB, sharedB, shE, runF_ap, runK_ret, runK_nx, runK_err, evSs_cs, evSs_nil, nxtS_nx, nxtS_ret, nxtS_err, nxtS_brk, nxtS_cont, bs_ok, bs_err, oo_some, selS_t, selS_f, evS_pass, evS_expr, evS_set, evS_par, evS_ret, evS_retN, evS_brk, evS_cont, evS_ite, evS_jput, evS_raise, evS_try, tryK, ev_var, ev_cst, ev_bin, ev_neg, ev_not, ev_cmp, ev_chain, ev_and, ev_or, ev_ite, ev_tup, ev_lst, ev_idx, ev_slc, ev_call, ev_bi, ev_isi, evs_nil, evs_cons, evo_none, evo_some, andK_bt, andK_bf, orK_bt, orK_bf, iteK_bt, iteK_bf, rb_ok, rb_err, mb_ap, mp_ap, lift_ap, gv_z, gv_s, List.map_cons, List.map_nil, List.length_cons, List.length_nil, List.length_set, List.replicate, List.cons_append, List.nil_append, Nat.reduceAdd, Nat.reduceSub, List.set_cons_zero, List.set_cons_succ, List.getElem?_cons_succ, List.getElem?_cons_zero, Option.map_some, Option.bind_some, assignN, setAll2, setAll3, setAll_nil, bin_add, bin_sub, bin_mul, bin_fdiv, bin_mod, bin_pow, cmp_lt, cmp_le, cmp_gt, cmp_ge, cmp_eqi, cmp_nei, negD_int, tru_bl, bi_int, bi_bl, bi_abs, bi_gcd, bi_lenl, bi_lent, isInt_int, jix, idxT0, idxT1, idxL0, idxL1, decide_true, decide_false, Bool.not_true, Bool.not_false, handle, hb, hb', fmod_nat, ne_eq, not_false_eq_true, Nat.reduceLT, if_true, if_false]
theorem shared_loop {x y : Sl} {st : S} : ∀ (j : Nat) (its : List Int) (a b : Nat) (t : Sl), b < a → a * b < 2 ^ j → j ≤ its.length → ∃ t' b', forL (loopB Γ (.nm 2) sharedB) (its.map .int) (shE x y t a b) st = .nx (shE x y t' (Nat.gcd a b) b') st
  | 0, its, a, b, t, h1, h2, h3 => by
    have hb : b = 0 := by
      rcases Nat.eq_zero_or_pos b with h | h
      · exact h
      · have : 1 ≤ a * b := Nat.mul_pos (by omega) h
        omega
    subst hb
    rw [Nat.gcd_zero_right]
    cases its with
    | nil => exact ⟨t, 0, rfl⟩
    | cons i r => exact ⟨.val (.int i), 0, by simp only [List.map_cons, forL, shared_brk]⟩
  | j + 1, its, a, b, t, h1, h2, h3 => by
    rcases Nat.eq_zero_or_pos b with hb | hb
    · subst hb
      rw [Nat.gcd_zero_right]
      cases its with
      | nil => exact ⟨t, 0, rfl⟩
      | cons i r => exact ⟨.val (.int i), 0, by simp only [List.map_cons, forL, shared_brk]⟩
    · cases its with
      | nil => simp at h3
      | cons i r =>
        have hm := Nat.mod_lt a hb
        have e : a = b * (a / b) + a % b := (Nat.div_add_mod a b).symm
        have hq : 1 ≤ a / b := Nat.div_pos (by omega) hb
        have h2r : 2 * (a % b) ≤ a := by
          have : b * 1 ≤ b * (a / b) := Nat.mul_le_mul_left b hq
          omega
        have hp : b * (a % b) < 2 ^ j := by
          have : 2 * (b * (a % b)) ≤ a * b := by
            have := Nat.mul_le_mul_left b h2r
            calc 2 * (b * (a % b)) = b * (2 * (a % b)) := by rw [← Nat.mul_assoc, Nat.mul_comm 2 b, Nat.mul_assoc]
              _ ≤ b * a := this
              _ = a * b := Nat.mul_comm _ _
          rw [Nat.pow_succ] at h2
          omega
        obtain ⟨t', b', ih⟩ := shared_loop j r b (a % b) (.val (.int i)) hm hp (by simpa using h3)
        refine ⟨t', b', ?_⟩
        simp only [List.map_cons, forL, shared_stp hb]
        rw [ih, Nat.gcd_comm a b, Nat.gcd_rec b a, Nat.gcd_comm (a % b) b]
theorem rngL_ints {lo : Int} {n : Nat} : rngL lo n = ((List.range n).map fun k => lo + (k : Nat)).map .int := by
  unfold rngL
  rw [List.map_map]
  rfl
theorem nabs (i : Int) : (if i < 0 then -i else i) = ((i.natAbs : Nat) : Int) := by split <;> omega
theorem shared_ok {p q : Int} {st : S} (h : q.natAbs < 2 ^ 199) : runF Γ 5 sharedCS [.int p, .int q] st = .ok (.int ((Nat.gcd p.natAbs q.natAbs : Nat) : Int)) st := by
  have key : ∀ (its : List Int), its.length = 400 → ∃ t' b', forL (loopB Γ (.nm 2) sharedB) (its.map .int) (shE (.val (.int p)) (.val (.int q)) .non p.natAbs q.natAbs) st = .nx (shE (.val (.int p)) (.val (.int q)) t' (Nat.gcd p.natAbs q.natAbs) b') st := by
    intro its hi
    cases its with
    | nil => cases hi
    | cons i r =>
      rcases Nat.eq_zero_or_pos q.natAbs with hb | hb
      · rw [hb, Nat.gcd_zero_right]
        exact ⟨.val (.int i), 0, by simp only [List.map_cons, forL, shared_brk]⟩
      · have hm := Nat.mod_lt p.natAbs hb
        have hp : q.natAbs * (p.natAbs % q.natAbs) < 2 ^ 398 := by
          have h1 : q.natAbs * (p.natAbs % q.natAbs) ≤ q.natAbs * q.natAbs := Nat.mul_le_mul_left _ (by omega)
          have h2 : q.natAbs * q.natAbs < 2 ^ 199 * 2 ^ 199 := Nat.mul_lt_mul'' h h
          have e : (2 : Nat) ^ 199 * 2 ^ 199 = 2 ^ 398 := by decide
          omega
        obtain ⟨t', b', ih⟩ := shared_loop (Γ := Γ) (x := .val (.int p)) (y := .val (.int q)) (st := st) 398 r q.natAbs (p.natAbs % q.natAbs) (.val (.int i)) hm hp (by simp at hi; omega)
        refine ⟨t', b', ?_⟩
        simp only [List.map_cons, forL, shared_stp hb]
        rw [ih, Nat.gcd_comm p.natAbs q.natAbs, Nat.gcd_rec q.natAbs p.natAbs, Nat.gcd_comm (p.natAbs % q.natAbs) q.natAbs]
  obtain ⟨t', b', e⟩ := key ((List.range 400).map fun k => (0 : Int) + (k : Nat)) (by simp)
  have hi : itemsD .rng [.int 400] = some (((List.range 400).map fun k => (0 : Int) + (k : Nat)).map .int) := by
    rw [← rngL_ints]
    rfl
  simp only [sharedCS, runF_ap, runK_ret, runK_nx, runK_err, evSs_cs, evSs_nil, nxtS_nx, nxtS_ret, nxtS_err, nxtS_brk, nxtS_cont, bs_ok, bs_err, oo_some, selS_t, selS_f, evS_pass, evS_expr, evS_set, evS_par, evS_ret, evS_retN, evS_brk, evS_cont, evS_ite, evS_jput, evS_raise, evS_try, tryK, ev_var, ev_cst, ev_bin, ev_neg, ev_not, ev_cmp, ev_chain, ev_and, ev_or, ev_ite, ev_tup, ev_lst, ev_idx, ev_slc, ev_call, ev_bi, ev_isi, evs_nil, evs_cons, evo_none, evo_some, andK_bt, andK_bf, orK_bt, orK_bf, iteK_bt, iteK_bf, rb_ok, rb_err, mb_ap, mp_ap, lift_ap, gv_z, gv_s, List.map_cons, List.map_nil, List.length_cons, List.length_nil, List.length_set, List.replicate, List.cons_append, List.nil_append, Nat.reduceAdd, Nat.reduceSub, List.set_cons_zero, List.set_cons_succ, List.getElem?_cons_succ, List.getElem?_cons_zero, Option.map_some, Option.bind_some, assignN, setAll2, setAll3, setAll_nil, bin_add, bin_sub, bin_mul, bin_fdiv, bin_mod, bin_pow, cmp_lt, cmp_le, cmp_gt, cmp_ge, cmp_eqi, cmp_nei, negD_int, tru_bl, bi_int, bi_bl, bi_abs, bi_gcd, bi_lenl, bi_lent, isInt_int, jix, idxT0, idxT1, idxL0, idxL1, decide_true, decide_false, Bool.not_true, Bool.not_false, handle, evS_loop, nabs, hi, Nat.reduceLT, if_true, if_false]
  rw [show ([Sl.val (D.int p), Sl.val (D.int q), Sl.non, Sl.val (D.int ((p.natAbs : Nat) : Int)), Sl.val (D.int ((q.natAbs : Nat) : Int))] : Env) = shE (.val (.int p)) (.val (.int q)) .non p.natAbs q.natAbs from rfl, e]
  simp only [shE, runF_ap, runK_ret, runK_nx, runK_err, evSs_cs, evSs_nil, nxtS_nx, nxtS_ret, nxtS_err, nxtS_brk, nxtS_cont, bs_ok, bs_err, oo_some, selS_t, selS_f, evS_pass, evS_expr, evS_set, evS_par, evS_ret, evS_retN, evS_brk, evS_cont, evS_ite, evS_jput, evS_raise, evS_try, tryK, ev_var, ev_cst, ev_bin, ev_neg, ev_not, ev_cmp, ev_chain, ev_and, ev_or, ev_ite, ev_tup, ev_lst, ev_idx, ev_slc, ev_call, ev_bi, ev_isi, evs_nil, evs_cons, evo_none, evo_some, andK_bt, andK_bf, orK_bt, orK_bf, iteK_bt, iteK_bf, rb_ok, rb_err, mb_ap, mp_ap, lift_ap, gv_z, gv_s, List.map_cons, List.map_nil, List.length_cons, List.length_nil, List.length_set, List.replicate, List.cons_append, List.nil_append, Nat.reduceAdd, Nat.reduceSub, List.set_cons_zero, List.set_cons_succ, List.getElem?_cons_succ, List.getElem?_cons_zero, Option.map_some, Option.bind_some, assignN, setAll2, setAll3, setAll_nil, bin_add, bin_sub, bin_mul, bin_fdiv, bin_mod, bin_pow, cmp_lt, cmp_le, cmp_gt, cmp_ge, cmp_eqi, cmp_nei, negD_int, tru_bl, bi_int, bi_bl, bi_abs, bi_gcd, bi_lenl, bi_lent, isInt_int, jix, idxT0, idxT1, idxL0, idxL1, decide_true, decide_false, Bool.not_true, Bool.not_false, handle]
end
end DE
/-! The plain side: the package's exact numbers -/
namespace DE
open PySem
namespace Ex
def is_integer : List CS := [(.ret (.and (.isi (.var 0) [.bt "int"]) (.not (.isi (.var 0) [.bt "bool"]))))]
def is_within : List CS := [(.ite (.not (.call "is_integer" [(.var 0)])) [(.ret (.cst (.bl false)))] []), (.ret (.and (.or (.cmp .isN (.var 1) (.cst .non)) (.cmp .ge (.var 0) (.var 1))) (.or (.cmp .isN (.var 2) (.cst .non)) (.cmp .le (.var 0) (.var 2)))))]
def is_number : List CS := [(.ite (.call "is_integer" [(.var 0)]) [(.ret (.cst (.bl true)))] []), (.ite (.or (.not (.isi (.var 0) [.bt "list", .bt "tuple"])) (.cmp .ne (.bi .len [(.var 0)]) (.cst (.int 2)))) [(.ret (.cst (.bl false)))] []), (.ite (.or (.not (.call "is_integer" [(.idx (.var 0) (.cst (.int 0)))])) (.not (.call "is_within" [(.idx (.var 0) (.cst (.int 1))), (.cst (.int 1)), (.cst .non)]))) [(.ret (.cst (.bl false)))] []), (.ret (.cmp .eq (.bi .gcd [(.idx (.var 0) (.cst (.int 0))), (.idx (.var 0) (.cst (.int 1)))]) (.cst (.int 1))))]
def lowest : List CS := [(.set (.nm 2) (.bi .gcd [(.var 0), (.var 1)])), (.ite (.cmp .lt (.var 1) (.cst (.int 0))) [(.set (.nm 2) (.neg (.var 2)))] []), (.ret (.tup [(.bin .fdiv (.var 0) (.var 2)), (.bin .fdiv (.var 1) (.var 2))]))]
def as_number : List CS := [(.ite (.call "is_integer" [(.var 0)]) [(.ret (.tup [(.var 0), (.cst (.int 1))]))] []), (.ret (.tup [(.idx (.var 0) (.cst (.int 0))), (.idx (.var 0) (.cst (.int 1)))]))]
def checked : List CS := [(.ite (.not (.call "is_number" [(.var 0)])) [(.raise "BadNumber" [(.var 1)])] []), (.ret (.call "as_number" [(.var 0)]))]
end Ex
/-- what a kind of data is, of those that a list's item may be -/
def kn (d : D) : Bool := (tyD d).isSome
def isI : D → Bool
  | .int _ => true
  | _ => false
section
variable {Γ : Gam} {st : S}
theorem isi_int {d : D} (h : kn d = true) : isiD d [.bt "int"] = some (match d with | .int _ => true | .bl _ => true | _ => false) ∧ isiD d [.bt "bool"] = some (match d with | .bl _ => true | _ => false) := by
  cases d <;> first | (constructor <;> rfl) | (exact absurd h (by decide)) | (simp [kn, tyD] at h)
theorem isi_seq {d : D} (h : kn d = true) : isiD d [.bt "list", .bt "tuple"] = some (match d with | .lst _ => true | .tup _ => true | _ => false) := by
  cases d <;> first | rfl | (simp [kn, tyD] at h)
theorem is_integer_ok {d : D} (h : kn d = true) : runF Γ 1 Ex.is_integer [d] st = .ok (.bl (isI d)) st := by
  obtain ⟨h1, h2⟩ := isi_int h
  simp only [Ex.is_integer, runF_ap, runK_ret, runK_nx, runK_err, evSs_cs, evSs_nil, nxtS_nx, nxtS_ret, nxtS_err, nxtS_brk, nxtS_cont, bs_ok, bs_err, oo_some, selS_t, selS_f, evS_pass, evS_expr, evS_set, evS_par, evS_ret, evS_retN, evS_brk, evS_cont, evS_ite, evS_jput, evS_raise, evS_try, tryK, ev_var, ev_cst, ev_bin, ev_neg, ev_not, ev_cmp, ev_chain, ev_and, ev_or, ev_ite, ev_tup, ev_lst, ev_idx, ev_slc, ev_call, ev_bi, ev_isi, evs_nil, evs_cons, evo_none, evo_some, andK_bt, andK_bf, orK_bt, orK_bf, iteK_bt, iteK_bf, rb_ok, rb_err, mb_ap, mp_ap, lift_ap, gv_z, gv_s, List.map_cons, List.map_nil, List.length_cons, List.length_nil, List.length_set, List.replicate, List.cons_append, List.nil_append, Nat.reduceAdd, Nat.reduceSub, List.set_cons_zero, List.set_cons_succ, List.getElem?_cons_succ, List.getElem?_cons_zero, Option.map_some, Option.bind_some, assignN, setAll2, setAll3, setAll_nil, bin_add, bin_sub, bin_mul, bin_fdiv, bin_mod, bin_pow, cmp_lt, cmp_le, cmp_gt, cmp_ge, cmp_eqi, cmp_nei, negD_int, tru_bl, bi_int, bi_bl, bi_abs, bi_gcd, bi_lenl, bi_lent, isInt_int, jix, idxT0, idxT1, idxL0, idxL1, decide_true, decide_false, Bool.not_true, Bool.not_false, handle, h1, h2]
  cases d <;> simp only [runF_ap, runK_ret, runK_nx, runK_err, evSs_cs, evSs_nil, nxtS_nx, nxtS_ret, nxtS_err, nxtS_brk, nxtS_cont, bs_ok, bs_err, oo_some, selS_t, selS_f, evS_pass, evS_expr, evS_set, evS_par, evS_ret, evS_retN, evS_brk, evS_cont, evS_ite, evS_jput, evS_raise, evS_try, tryK, ev_var, ev_cst, ev_bin, ev_neg, ev_not, ev_cmp, ev_chain, ev_and, ev_or, ev_ite, ev_tup, ev_lst, ev_idx, ev_slc, ev_call, ev_bi, ev_isi, evs_nil, evs_cons, evo_none, evo_some, andK_bt, andK_bf, orK_bt, orK_bf, iteK_bt, iteK_bf, rb_ok, rb_err, mb_ap, mp_ap, lift_ap, gv_z, gv_s, List.map_cons, List.map_nil, List.length_cons, List.length_nil, List.length_set, List.replicate, List.cons_append, List.nil_append, Nat.reduceAdd, Nat.reduceSub, List.set_cons_zero, List.set_cons_succ, List.getElem?_cons_succ, List.getElem?_cons_zero, Option.map_some, Option.bind_some, assignN, setAll2, setAll3, setAll_nil, bin_add, bin_sub, bin_mul, bin_fdiv, bin_mod, bin_pow, cmp_lt, cmp_le, cmp_gt, cmp_ge, cmp_eqi, cmp_nei, negD_int, tru_bl, bi_int, bi_bl, bi_abs, bi_gcd, bi_lenl, bi_lent, isInt_int, jix, idxT0, idxT1, idxL0, idxL1, decide_true, decide_false, Bool.not_true, Bool.not_false, handle, isI] <;> rfl
def bdD : Option Int → D
  | none => .non
  | some i => .int i
def wi (v : Int) (lo hi : Option Int) : Bool := (match lo with | none => true | some l => decide (l ≤ v)) && (match hi with | none => true | some h => decide (v ≤ h))
theorem isN_non {st : S} : cmpD .isN .non .non = some true := rfl
theorem isN_int {i : Int} : cmpD .isN (.int i) .non = some false := rfl
theorem is_within_int {v : Int} {lo hi : Option Int} (hi1 : Γ.fn "is_integer" [.int v] st = .ok (.bl true) st) : runF Γ 3 Ex.is_within [.int v, bdD lo, bdD hi] st = .ok (.bl (wi v lo hi)) st := by
  cases lo with
  | none =>
    cases hi with
    | none => simp only [Ex.is_within, bdD, wi, runF_ap, runK_ret, runK_nx, runK_err, evSs_cs, evSs_nil, nxtS_nx, nxtS_ret, nxtS_err, nxtS_brk, nxtS_cont, bs_ok, bs_err, oo_some, selS_t, selS_f, evS_pass, evS_expr, evS_set, evS_par, evS_ret, evS_retN, evS_brk, evS_cont, evS_ite, evS_jput, evS_raise, evS_try, tryK, ev_var, ev_cst, ev_bin, ev_neg, ev_not, ev_cmp, ev_chain, ev_and, ev_or, ev_ite, ev_tup, ev_lst, ev_idx, ev_slc, ev_call, ev_bi, ev_isi, evs_nil, evs_cons, evo_none, evo_some, andK_bt, andK_bf, orK_bt, orK_bf, iteK_bt, iteK_bf, rb_ok, rb_err, mb_ap, mp_ap, lift_ap, gv_z, gv_s, List.map_cons, List.map_nil, List.length_cons, List.length_nil, List.length_set, List.replicate, List.cons_append, List.nil_append, Nat.reduceAdd, Nat.reduceSub, List.set_cons_zero, List.set_cons_succ, List.getElem?_cons_succ, List.getElem?_cons_zero, Option.map_some, Option.bind_some, assignN, setAll2, setAll3, setAll_nil, bin_add, bin_sub, bin_mul, bin_fdiv, bin_mod, bin_pow, cmp_lt, cmp_le, cmp_gt, cmp_ge, cmp_eqi, cmp_nei, negD_int, tru_bl, bi_int, bi_bl, bi_abs, bi_gcd, bi_lenl, bi_lent, isInt_int, jix, idxT0, idxT1, idxL0, idxL1, decide_true, decide_false, Bool.not_true, Bool.not_false, handle, hi1, isN_non, Bool.true_and, Bool.and_self]
    | some h => simp only [Ex.is_within, bdD, wi, runF_ap, runK_ret, runK_nx, runK_err, evSs_cs, evSs_nil, nxtS_nx, nxtS_ret, nxtS_err, nxtS_brk, nxtS_cont, bs_ok, bs_err, oo_some, selS_t, selS_f, evS_pass, evS_expr, evS_set, evS_par, evS_ret, evS_retN, evS_brk, evS_cont, evS_ite, evS_jput, evS_raise, evS_try, tryK, ev_var, ev_cst, ev_bin, ev_neg, ev_not, ev_cmp, ev_chain, ev_and, ev_or, ev_ite, ev_tup, ev_lst, ev_idx, ev_slc, ev_call, ev_bi, ev_isi, evs_nil, evs_cons, evo_none, evo_some, andK_bt, andK_bf, orK_bt, orK_bf, iteK_bt, iteK_bf, rb_ok, rb_err, mb_ap, mp_ap, lift_ap, gv_z, gv_s, List.map_cons, List.map_nil, List.length_cons, List.length_nil, List.length_set, List.replicate, List.cons_append, List.nil_append, Nat.reduceAdd, Nat.reduceSub, List.set_cons_zero, List.set_cons_succ, List.getElem?_cons_succ, List.getElem?_cons_zero, Option.map_some, Option.bind_some, assignN, setAll2, setAll3, setAll_nil, bin_add, bin_sub, bin_mul, bin_fdiv, bin_mod, bin_pow, cmp_lt, cmp_le, cmp_gt, cmp_ge, cmp_eqi, cmp_nei, negD_int, tru_bl, bi_int, bi_bl, bi_abs, bi_gcd, bi_lenl, bi_lent, isInt_int, jix, idxT0, idxT1, idxL0, idxL1, decide_true, decide_false, Bool.not_true, Bool.not_false, handle, hi1, isN_non, isN_int, Bool.true_and]
  | some l =>
    by_cases g : l ≤ v
    · have g' : decide (l ≤ v) = true := decide_eq_true g
      cases hi with
      | none => simp only [Ex.is_within, bdD, wi, runF_ap, runK_ret, runK_nx, runK_err, evSs_cs, evSs_nil, nxtS_nx, nxtS_ret, nxtS_err, nxtS_brk, nxtS_cont, bs_ok, bs_err, oo_some, selS_t, selS_f, evS_pass, evS_expr, evS_set, evS_par, evS_ret, evS_retN, evS_brk, evS_cont, evS_ite, evS_jput, evS_raise, evS_try, tryK, ev_var, ev_cst, ev_bin, ev_neg, ev_not, ev_cmp, ev_chain, ev_and, ev_or, ev_ite, ev_tup, ev_lst, ev_idx, ev_slc, ev_call, ev_bi, ev_isi, evs_nil, evs_cons, evo_none, evo_some, andK_bt, andK_bf, orK_bt, orK_bf, iteK_bt, iteK_bf, rb_ok, rb_err, mb_ap, mp_ap, lift_ap, gv_z, gv_s, List.map_cons, List.map_nil, List.length_cons, List.length_nil, List.length_set, List.replicate, List.cons_append, List.nil_append, Nat.reduceAdd, Nat.reduceSub, List.set_cons_zero, List.set_cons_succ, List.getElem?_cons_succ, List.getElem?_cons_zero, Option.map_some, Option.bind_some, assignN, setAll2, setAll3, setAll_nil, bin_add, bin_sub, bin_mul, bin_fdiv, bin_mod, bin_pow, cmp_lt, cmp_le, cmp_gt, cmp_ge, cmp_eqi, cmp_nei, negD_int, tru_bl, bi_int, bi_bl, bi_abs, bi_gcd, bi_lenl, bi_lent, isInt_int, jix, idxT0, idxT1, idxL0, idxL1, decide_true, decide_false, Bool.not_true, Bool.not_false, handle, hi1, isN_non, isN_int, g', Bool.true_and, Bool.and_self]
      | some h => simp only [Ex.is_within, bdD, wi, runF_ap, runK_ret, runK_nx, runK_err, evSs_cs, evSs_nil, nxtS_nx, nxtS_ret, nxtS_err, nxtS_brk, nxtS_cont, bs_ok, bs_err, oo_some, selS_t, selS_f, evS_pass, evS_expr, evS_set, evS_par, evS_ret, evS_retN, evS_brk, evS_cont, evS_ite, evS_jput, evS_raise, evS_try, tryK, ev_var, ev_cst, ev_bin, ev_neg, ev_not, ev_cmp, ev_chain, ev_and, ev_or, ev_ite, ev_tup, ev_lst, ev_idx, ev_slc, ev_call, ev_bi, ev_isi, evs_nil, evs_cons, evo_none, evo_some, andK_bt, andK_bf, orK_bt, orK_bf, iteK_bt, iteK_bf, rb_ok, rb_err, mb_ap, mp_ap, lift_ap, gv_z, gv_s, List.map_cons, List.map_nil, List.length_cons, List.length_nil, List.length_set, List.replicate, List.cons_append, List.nil_append, Nat.reduceAdd, Nat.reduceSub, List.set_cons_zero, List.set_cons_succ, List.getElem?_cons_succ, List.getElem?_cons_zero, Option.map_some, Option.bind_some, assignN, setAll2, setAll3, setAll_nil, bin_add, bin_sub, bin_mul, bin_fdiv, bin_mod, bin_pow, cmp_lt, cmp_le, cmp_gt, cmp_ge, cmp_eqi, cmp_nei, negD_int, tru_bl, bi_int, bi_bl, bi_abs, bi_gcd, bi_lenl, bi_lent, isInt_int, jix, idxT0, idxT1, idxL0, idxL1, decide_true, decide_false, Bool.not_true, Bool.not_false, handle, hi1, isN_non, isN_int, g', Bool.true_and]
    · have g' : decide (l ≤ v) = false := decide_eq_false g
      cases hi with
      | none => simp only [Ex.is_within, bdD, wi, runF_ap, runK_ret, runK_nx, runK_err, evSs_cs, evSs_nil, nxtS_nx, nxtS_ret, nxtS_err, nxtS_brk, nxtS_cont, bs_ok, bs_err, oo_some, selS_t, selS_f, evS_pass, evS_expr, evS_set, evS_par, evS_ret, evS_retN, evS_brk, evS_cont, evS_ite, evS_jput, evS_raise, evS_try, tryK, ev_var, ev_cst, ev_bin, ev_neg, ev_not, ev_cmp, ev_chain, ev_and, ev_or, ev_ite, ev_tup, ev_lst, ev_idx, ev_slc, ev_call, ev_bi, ev_isi, evs_nil, evs_cons, evo_none, evo_some, andK_bt, andK_bf, orK_bt, orK_bf, iteK_bt, iteK_bf, rb_ok, rb_err, mb_ap, mp_ap, lift_ap, gv_z, gv_s, List.map_cons, List.map_nil, List.length_cons, List.length_nil, List.length_set, List.replicate, List.cons_append, List.nil_append, Nat.reduceAdd, Nat.reduceSub, List.set_cons_zero, List.set_cons_succ, List.getElem?_cons_succ, List.getElem?_cons_zero, Option.map_some, Option.bind_some, assignN, setAll2, setAll3, setAll_nil, bin_add, bin_sub, bin_mul, bin_fdiv, bin_mod, bin_pow, cmp_lt, cmp_le, cmp_gt, cmp_ge, cmp_eqi, cmp_nei, negD_int, tru_bl, bi_int, bi_bl, bi_abs, bi_gcd, bi_lenl, bi_lent, isInt_int, jix, idxT0, idxT1, idxL0, idxL1, decide_true, decide_false, Bool.not_true, Bool.not_false, handle, hi1, isN_non, isN_int, g', Bool.false_and]
      | some h => simp only [Ex.is_within, bdD, wi, runF_ap, runK_ret, runK_nx, runK_err, evSs_cs, evSs_nil, nxtS_nx, nxtS_ret, nxtS_err, nxtS_brk, nxtS_cont, bs_ok, bs_err, oo_some, selS_t, selS_f, evS_pass, evS_expr, evS_set, evS_par, evS_ret, evS_retN, evS_brk, evS_cont, evS_ite, evS_jput, evS_raise, evS_try, tryK, ev_var, ev_cst, ev_bin, ev_neg, ev_not, ev_cmp, ev_chain, ev_and, ev_or, ev_ite, ev_tup, ev_lst, ev_idx, ev_slc, ev_call, ev_bi, ev_isi, evs_nil, evs_cons, evo_none, evo_some, andK_bt, andK_bf, orK_bt, orK_bf, iteK_bt, iteK_bf, rb_ok, rb_err, mb_ap, mp_ap, lift_ap, gv_z, gv_s, List.map_cons, List.map_nil, List.length_cons, List.length_nil, List.length_set, List.replicate, List.cons_append, List.nil_append, Nat.reduceAdd, Nat.reduceSub, List.set_cons_zero, List.set_cons_succ, List.getElem?_cons_succ, List.getElem?_cons_zero, Option.map_some, Option.bind_some, assignN, setAll2, setAll3, setAll_nil, bin_add, bin_sub, bin_mul, bin_fdiv, bin_mod, bin_pow, cmp_lt, cmp_le, cmp_gt, cmp_ge, cmp_eqi, cmp_nei, negD_int, tru_bl, bi_int, bi_bl, bi_abs, bi_gcd, bi_lenl, bi_lent, isInt_int, jix, idxT0, idxT1, idxL0, idxL1, decide_true, decide_false, Bool.not_true, Bool.not_false, handle, hi1, isN_non, isN_int, g', Bool.false_and]
theorem is_within_no {d a b : D} (hi1 : Γ.fn "is_integer" [d] st = .ok (.bl false) st) : runF Γ 3 Ex.is_within [d, a, b] st = .ok (.bl false) st := by
  simp only [Ex.is_within, runF_ap, runK_ret, runK_nx, runK_err, evSs_cs, evSs_nil, nxtS_nx, nxtS_ret, nxtS_err, nxtS_brk, nxtS_cont, bs_ok, bs_err, oo_some, selS_t, selS_f, evS_pass, evS_expr, evS_set, evS_par, evS_ret, evS_retN, evS_brk, evS_cont, evS_ite, evS_jput, evS_raise, evS_try, tryK, ev_var, ev_cst, ev_bin, ev_neg, ev_not, ev_cmp, ev_chain, ev_and, ev_or, ev_ite, ev_tup, ev_lst, ev_idx, ev_slc, ev_call, ev_bi, ev_isi, evs_nil, evs_cons, evo_none, evo_some, andK_bt, andK_bf, orK_bt, orK_bf, iteK_bt, iteK_bf, rb_ok, rb_err, mb_ap, mp_ap, lift_ap, gv_z, gv_s, List.map_cons, List.map_nil, List.length_cons, List.length_nil, List.length_set, List.replicate, List.cons_append, List.nil_append, Nat.reduceAdd, Nat.reduceSub, List.set_cons_zero, List.set_cons_succ, List.getElem?_cons_succ, List.getElem?_cons_zero, Option.map_some, Option.bind_some, assignN, setAll2, setAll3, setAll_nil, bin_add, bin_sub, bin_mul, bin_fdiv, bin_mod, bin_pow, cmp_lt, cmp_le, cmp_gt, cmp_ge, cmp_eqi, cmp_nei, negD_int, tru_bl, bi_int, bi_bl, bi_abs, bi_gcd, bi_lenl, bi_lent, isInt_int, jix, idxT0, idxT1, idxL0, idxL1, decide_true, decide_false, Bool.not_true, Bool.not_false, handle, hi1]
/-- a number: an integer, or a pair in lowest terms -/
def isP (a b : Int) : Bool := decide (1 ≤ b) && decide (Nat.gcd a.natAbs b.natAbs = 1)
def isN : D → Bool
  | .int _ => true
  | .tup [.int a, .int b] => isP a b
  | .lst [.int a, .int b] => isP a b
  | _ => false
/-- data of which is_number can be asked -/
def ask : D → Bool
  | .tup [a, b] => kn a && kn b
  | .lst [a, b] => kn a && kn b
  | d => kn d
/-- the two questions about integers, as Γ has them -/
structure HasI (Γ : Gam) : Prop where
  int : ∀ x st, kn x = true → Γ.fn "is_integer" [x] st = .ok (.bl (isI x)) st
structure HasW (Γ : Gam) : Prop extends HasI Γ where
  win : ∀ v lo hi st, Γ.fn "is_within" [.int v, bdD lo, bdD hi] st = .ok (.bl (wi v lo hi)) st
  wno : ∀ x a b st, kn x = true → isI x = false → Γ.fn "is_within" [x, a, b] st = .ok (.bl false) st
theorem gcd_dec {a b : Int} : decide (((Nat.gcd a.natAbs b.natAbs : Nat) : Int) = 1) = decide (Nat.gcd a.natAbs b.natAbs = 1) := by
  by_cases h : Nat.gcd a.natAbs b.natAbs = 1
  · have : ((Nat.gcd a.natAbs b.natAbs : Nat) : Int) = 1 := by omega
    rw [decide_eq_true h, decide_eq_true this]
  · have : ¬ ((Nat.gcd a.natAbs b.natAbs : Nat) : Int) = 1 := by omega
    rw [decide_eq_false h, decide_eq_false this]
theorem isN_pairT {a b : D} : isN (.tup [a, b]) = (isI a && (isI b && match a, b with | .int a, .int b => isP a b | _, _ => false)) := by cases a <;> cases b <;> simp [isN, isI]
theorem isN_pairL {a b : D} : isN (.lst [a, b]) = (isI a && (isI b && match a, b with | .int a, .int b => isP a b | _, _ => false)) := by cases a <;> cases b <;> simp [isN, isI]
theorem lenNe {n : Nat} (h : n ≠ 2) : (!decide (((n : Nat) : Int) = 2)) = true := by
  have : ¬ ((n : Nat) : Int) = 2 := by omega
  simp [this]
theorem isN_longT {xs : List D} (h : xs.length ≠ 2) : isN (.tup xs) = false := by
  match xs, h with
  | [], _ => rfl
  | [a], _ => cases a <;> rfl
  | a :: b :: c :: r, _ => cases a <;> first | rfl | (cases b <;> rfl)
theorem isN_longL {xs : List D} (h : xs.length ≠ 2) : isN (.lst xs) = false := by
  match xs, h with
  | [], _ => rfl
  | [a], _ => cases a <;> rfl
  | a :: b :: c :: r, _ => cases a <;> first | rfl | (cases b <;> rfl)
theorem is_number_ok (K : HasW Γ) {d : D} (h : ask d = true) : runF Γ 1 Ex.is_number [d] st = .ok (.bl (isN d)) st := by
  have pair : ∀ (a b : D) (sq : List D → D), (∀ xs i st, idxM (sq xs) i st = idxM (.tup xs) i st) → (∀ xs, kn (sq xs) = true) → (∀ xs, isI (sq xs) = false) → (∀ xs, isiD (sq xs) [.bt "list", .bt "tuple"] = some true) → (∀ xs, biD .len [sq xs] = some (.int (xs.length : Nat))) → kn a = true → kn b = true →
      runF Γ 1 Ex.is_number [sq [a, b]] st = .ok (.bl (isI a && (isI b && match a, b with | .int a, .int b => isP a b | _, _ => false))) st := by
    intro a b sq q1 q2 q3 q4 q5 ka kb
    have e0 := K.int (sq [a, b]) st (q2 _)
    rw [q3] at e0
    have ea := K.int a st ka
    have two : (!decide ((((0 + 1 + 1 : Nat)) : Int) = 2)) = false := by decide
    cases ha : isI a with
    | false =>
      rw [ha] at ea
      simp only [Ex.is_number, runF_ap, runK_ret, runK_nx, runK_err, evSs_cs, evSs_nil, nxtS_nx, nxtS_ret, nxtS_err, nxtS_brk, nxtS_cont, bs_ok, bs_err, oo_some, selS_t, selS_f, evS_pass, evS_expr, evS_set, evS_par, evS_ret, evS_retN, evS_brk, evS_cont, evS_ite, evS_jput, evS_raise, evS_try, tryK, ev_var, ev_cst, ev_bin, ev_neg, ev_not, ev_cmp, ev_chain, ev_and, ev_or, ev_ite, ev_tup, ev_lst, ev_idx, ev_slc, ev_call, ev_bi, ev_isi, evs_nil, evs_cons, evo_none, evo_some, andK_bt, andK_bf, orK_bt, orK_bf, iteK_bt, iteK_bf, rb_ok, rb_err, mb_ap, mp_ap, lift_ap, gv_z, gv_s, List.map_cons, List.map_nil, List.length_cons, List.length_nil, List.length_set, List.replicate, List.cons_append, List.nil_append, Nat.reduceAdd, Nat.reduceSub, List.set_cons_zero, List.set_cons_succ, List.getElem?_cons_succ, List.getElem?_cons_zero, Option.map_some, Option.bind_some, assignN, setAll2, setAll3, setAll_nil, bin_add, bin_sub, bin_mul, bin_fdiv, bin_mod, bin_pow, cmp_lt, cmp_le, cmp_gt, cmp_ge, cmp_eqi, cmp_nei, negD_int, tru_bl, bi_int, bi_bl, bi_abs, bi_gcd, bi_lenl, bi_lent, isInt_int, jix, idxT0, idxT1, idxL0, idxL1, decide_true, decide_false, Bool.not_true, Bool.not_false, handle, e0, q4, q5, q1, ea, two, Bool.false_and]
    | true =>
      rw [ha] at ea
      cases hb : isI b with
      | false =>
        have eb := K.wno b (.int 1) .non st kb hb
        simp only [Ex.is_number, runF_ap, runK_ret, runK_nx, runK_err, evSs_cs, evSs_nil, nxtS_nx, nxtS_ret, nxtS_err, nxtS_brk, nxtS_cont, bs_ok, bs_err, oo_some, selS_t, selS_f, evS_pass, evS_expr, evS_set, evS_par, evS_ret, evS_retN, evS_brk, evS_cont, evS_ite, evS_jput, evS_raise, evS_try, tryK, ev_var, ev_cst, ev_bin, ev_neg, ev_not, ev_cmp, ev_chain, ev_and, ev_or, ev_ite, ev_tup, ev_lst, ev_idx, ev_slc, ev_call, ev_bi, ev_isi, evs_nil, evs_cons, evo_none, evo_some, andK_bt, andK_bf, orK_bt, orK_bf, iteK_bt, iteK_bf, rb_ok, rb_err, mb_ap, mp_ap, lift_ap, gv_z, gv_s, List.map_cons, List.map_nil, List.length_cons, List.length_nil, List.length_set, List.replicate, List.cons_append, List.nil_append, Nat.reduceAdd, Nat.reduceSub, List.set_cons_zero, List.set_cons_succ, List.getElem?_cons_succ, List.getElem?_cons_zero, Option.map_some, Option.bind_some, assignN, setAll2, setAll3, setAll_nil, bin_add, bin_sub, bin_mul, bin_fdiv, bin_mod, bin_pow, cmp_lt, cmp_le, cmp_gt, cmp_ge, cmp_eqi, cmp_nei, negD_int, tru_bl, bi_int, bi_bl, bi_abs, bi_gcd, bi_lenl, bi_lent, isInt_int, jix, idxT0, idxT1, idxL0, idxL1, decide_true, decide_false, Bool.not_true, Bool.not_false, handle, e0, q4, q5, q1, ea, eb, two, Bool.false_and, Bool.and_false]
      | true =>
        cases a with
        | int a =>
          cases b with
          | int b =>
            have eb := K.win b (some 1) none st
            simp only [bdD, wi, Bool.and_true] at eb
            by_cases g : 1 ≤ b
            · have g' : decide (1 ≤ b) = true := decide_eq_true g
              rw [g'] at eb
              simp only [Ex.is_number, runF_ap, runK_ret, runK_nx, runK_err, evSs_cs, evSs_nil, nxtS_nx, nxtS_ret, nxtS_err, nxtS_brk, nxtS_cont, bs_ok, bs_err, oo_some, selS_t, selS_f, evS_pass, evS_expr, evS_set, evS_par, evS_ret, evS_retN, evS_brk, evS_cont, evS_ite, evS_jput, evS_raise, evS_try, tryK, ev_var, ev_cst, ev_bin, ev_neg, ev_not, ev_cmp, ev_chain, ev_and, ev_or, ev_ite, ev_tup, ev_lst, ev_idx, ev_slc, ev_call, ev_bi, ev_isi, evs_nil, evs_cons, evo_none, evo_some, andK_bt, andK_bf, orK_bt, orK_bf, iteK_bt, iteK_bf, rb_ok, rb_err, mb_ap, mp_ap, lift_ap, gv_z, gv_s, List.map_cons, List.map_nil, List.length_cons, List.length_nil, List.length_set, List.replicate, List.cons_append, List.nil_append, Nat.reduceAdd, Nat.reduceSub, List.set_cons_zero, List.set_cons_succ, List.getElem?_cons_succ, List.getElem?_cons_zero, Option.map_some, Option.bind_some, assignN, setAll2, setAll3, setAll_nil, bin_add, bin_sub, bin_mul, bin_fdiv, bin_mod, bin_pow, cmp_lt, cmp_le, cmp_gt, cmp_ge, cmp_eqi, cmp_nei, negD_int, tru_bl, bi_int, bi_bl, bi_abs, bi_gcd, bi_lenl, bi_lent, isInt_int, jix, idxT0, idxT1, idxL0, idxL1, decide_true, decide_false, Bool.not_true, Bool.not_false, handle, e0, q4, q5, q1, ea, eb, two, Bool.true_and, gcd_dec, isP, g']
            · have g' : decide (1 ≤ b) = false := decide_eq_false g
              rw [g'] at eb
              simp only [Ex.is_number, runF_ap, runK_ret, runK_nx, runK_err, evSs_cs, evSs_nil, nxtS_nx, nxtS_ret, nxtS_err, nxtS_brk, nxtS_cont, bs_ok, bs_err, oo_some, selS_t, selS_f, evS_pass, evS_expr, evS_set, evS_par, evS_ret, evS_retN, evS_brk, evS_cont, evS_ite, evS_jput, evS_raise, evS_try, tryK, ev_var, ev_cst, ev_bin, ev_neg, ev_not, ev_cmp, ev_chain, ev_and, ev_or, ev_ite, ev_tup, ev_lst, ev_idx, ev_slc, ev_call, ev_bi, ev_isi, evs_nil, evs_cons, evo_none, evo_some, andK_bt, andK_bf, orK_bt, orK_bf, iteK_bt, iteK_bf, rb_ok, rb_err, mb_ap, mp_ap, lift_ap, gv_z, gv_s, List.map_cons, List.map_nil, List.length_cons, List.length_nil, List.length_set, List.replicate, List.cons_append, List.nil_append, Nat.reduceAdd, Nat.reduceSub, List.set_cons_zero, List.set_cons_succ, List.getElem?_cons_succ, List.getElem?_cons_zero, Option.map_some, Option.bind_some, assignN, setAll2, setAll3, setAll_nil, bin_add, bin_sub, bin_mul, bin_fdiv, bin_mod, bin_pow, cmp_lt, cmp_le, cmp_gt, cmp_ge, cmp_eqi, cmp_nei, negD_int, tru_bl, bi_int, bi_bl, bi_abs, bi_gcd, bi_lenl, bi_lent, isInt_int, jix, idxT0, idxT1, idxL0, idxL1, decide_true, decide_false, Bool.not_true, Bool.not_false, handle, e0, q4, q5, q1, ea, eb, two, Bool.true_and, isP, g', Bool.false_and]
          | _ => cases hb
        | _ => cases ha
  have long : ∀ (xs : List D) (sq : List D → D), (∀ xs, kn (sq xs) = true) → (∀ xs, isI (sq xs) = false) → (∀ xs, isiD (sq xs) [.bt "list", .bt "tuple"] = some true) → (∀ xs, biD .len [sq xs] = some (.int (xs.length : Nat))) → xs.length ≠ 2 → runF Γ 1 Ex.is_number [sq xs] st = .ok (.bl false) st := by
    intro xs sq q2 q3 q4 q5 hx
    have e0 := K.int (sq xs) st (q2 _)
    rw [q3] at e0
    have z := lenNe hx
    simp only [Ex.is_number, runF_ap, runK_ret, runK_nx, runK_err, evSs_cs, evSs_nil, nxtS_nx, nxtS_ret, nxtS_err, nxtS_brk, nxtS_cont, bs_ok, bs_err, oo_some, selS_t, selS_f, evS_pass, evS_expr, evS_set, evS_par, evS_ret, evS_retN, evS_brk, evS_cont, evS_ite, evS_jput, evS_raise, evS_try, tryK, ev_var, ev_cst, ev_bin, ev_neg, ev_not, ev_cmp, ev_chain, ev_and, ev_or, ev_ite, ev_tup, ev_lst, ev_idx, ev_slc, ev_call, ev_bi, ev_isi, evs_nil, evs_cons, evo_none, evo_some, andK_bt, andK_bf, orK_bt, orK_bf, iteK_bt, iteK_bf, rb_ok, rb_err, mb_ap, mp_ap, lift_ap, gv_z, gv_s, List.map_cons, List.map_nil, List.length_cons, List.length_nil, List.length_set, List.replicate, List.cons_append, List.nil_append, Nat.reduceAdd, Nat.reduceSub, List.set_cons_zero, List.set_cons_succ, List.getElem?_cons_succ, List.getElem?_cons_zero, Option.map_some, Option.bind_some, assignN, setAll2, setAll3, setAll_nil, bin_add, bin_sub, bin_mul, bin_fdiv, bin_mod, bin_pow, cmp_lt, cmp_le, cmp_gt, cmp_ge, cmp_eqi, cmp_nei, negD_int, tru_bl, bi_int, bi_bl, bi_abs, bi_gcd, bi_lenl, bi_lent, isInt_int, jix, idxT0, idxT1, idxL0, idxL1, decide_true, decide_false, Bool.not_true, Bool.not_false, handle, e0, q4, q5, z]
  have other : ∀ d : D, kn d = true → isI d = false → isiD d [.bt "list", .bt "tuple"] = some false → runF Γ 1 Ex.is_number [d] st = .ok (.bl false) st := by
    intro d q2 q3 q4
    have e0 := K.int d st q2
    rw [q3] at e0
    simp only [Ex.is_number, runF_ap, runK_ret, runK_nx, runK_err, evSs_cs, evSs_nil, nxtS_nx, nxtS_ret, nxtS_err, nxtS_brk, nxtS_cont, bs_ok, bs_err, oo_some, selS_t, selS_f, evS_pass, evS_expr, evS_set, evS_par, evS_ret, evS_retN, evS_brk, evS_cont, evS_ite, evS_jput, evS_raise, evS_try, tryK, ev_var, ev_cst, ev_bin, ev_neg, ev_not, ev_cmp, ev_chain, ev_and, ev_or, ev_ite, ev_tup, ev_lst, ev_idx, ev_slc, ev_call, ev_bi, ev_isi, evs_nil, evs_cons, evo_none, evo_some, andK_bt, andK_bf, orK_bt, orK_bf, iteK_bt, iteK_bf, rb_ok, rb_err, mb_ap, mp_ap, lift_ap, gv_z, gv_s, List.map_cons, List.map_nil, List.length_cons, List.length_nil, List.length_set, List.replicate, List.cons_append, List.nil_append, Nat.reduceAdd, Nat.reduceSub, List.set_cons_zero, List.set_cons_succ, List.getElem?_cons_succ, List.getElem?_cons_zero, Option.map_some, Option.bind_some, assignN, setAll2, setAll3, setAll_nil, bin_add, bin_sub, bin_mul, bin_fdiv, bin_mod, bin_pow, cmp_lt, cmp_le, cmp_gt, cmp_ge, cmp_eqi, cmp_nei, negD_int, tru_bl, bi_int, bi_bl, bi_abs, bi_gcd, bi_lenl, bi_lent, isInt_int, jix, idxT0, idxT1, idxL0, idxL1, decide_true, decide_false, Bool.not_true, Bool.not_false, handle, e0, q4]
  cases d with
  | int i =>
    have e0 := K.int (.int i) st rfl
    simp only [isI] at e0
    simp only [Ex.is_number, runF_ap, runK_ret, runK_nx, runK_err, evSs_cs, evSs_nil, nxtS_nx, nxtS_ret, nxtS_err, nxtS_brk, nxtS_cont, bs_ok, bs_err, oo_some, selS_t, selS_f, evS_pass, evS_expr, evS_set, evS_par, evS_ret, evS_retN, evS_brk, evS_cont, evS_ite, evS_jput, evS_raise, evS_try, tryK, ev_var, ev_cst, ev_bin, ev_neg, ev_not, ev_cmp, ev_chain, ev_and, ev_or, ev_ite, ev_tup, ev_lst, ev_idx, ev_slc, ev_call, ev_bi, ev_isi, evs_nil, evs_cons, evo_none, evo_some, andK_bt, andK_bf, orK_bt, orK_bf, iteK_bt, iteK_bf, rb_ok, rb_err, mb_ap, mp_ap, lift_ap, gv_z, gv_s, List.map_cons, List.map_nil, List.length_cons, List.length_nil, List.length_set, List.replicate, List.cons_append, List.nil_append, Nat.reduceAdd, Nat.reduceSub, List.set_cons_zero, List.set_cons_succ, List.getElem?_cons_succ, List.getElem?_cons_zero, Option.map_some, Option.bind_some, assignN, setAll2, setAll3, setAll_nil, bin_add, bin_sub, bin_mul, bin_fdiv, bin_mod, bin_pow, cmp_lt, cmp_le, cmp_gt, cmp_ge, cmp_eqi, cmp_nei, negD_int, tru_bl, bi_int, bi_bl, bi_abs, bi_gcd, bi_lenl, bi_lent, isInt_int, jix, idxT0, idxT1, idxL0, idxL1, decide_true, decide_false, Bool.not_true, Bool.not_false, handle, e0, isN]
  | tup xs =>
    by_cases hx : xs.length = 2
    · match xs, hx with
      | [a, b], _ =>
        have hh : (kn a && kn b) = true := h
        rw [Bool.and_eq_true] at hh
        rw [pair a b .tup (fun _ _ _ => rfl) (fun _ => rfl) (fun _ => rfl) (fun _ => rfl) (fun _ => rfl) hh.1 hh.2, isN_pairT]
    · rw [long xs .tup (fun _ => rfl) (fun _ => rfl) (fun _ => rfl) (fun _ => rfl) hx, isN_longT hx]
  | lst xs =>
    by_cases hx : xs.length = 2
    · match xs, hx with
      | [a, b], _ =>
        have hh : (kn a && kn b) = true := h
        rw [Bool.and_eq_true] at hh
        rw [pair a b .lst (fun xs i st => by cases i <;> rfl) (fun _ => rfl) (fun _ => rfl) (fun _ => rfl) (fun _ => rfl) hh.1 hh.2, isN_pairL]
    · rw [long xs .lst (fun _ => rfl) (fun _ => rfl) (fun _ => rfl) (fun _ => rfl) hx, isN_longL hx]
  | non => exact other _ rfl rfl rfl
  | bl b => exact other _ rfl rfl rfl
  | str x => exact other _ rfl rfl rfl
  | dic => exact other _ rfl rfl rfl
  | _ => cases h
end
end DE
/-! The plain side: fractions -/
namespace DE
open PySem
/-- in lowest terms -/
def Fr (p : Int × Int) : Prop := 1 ≤ p.2 ∧ Nat.gcd p.1.natAbs p.2.natAbs = 1
theorem isP_iff {a b : Int} : isP a b = true ↔ Fr (a, b) := by
  unfold isP Fr
  simp only [Bool.and_eq_true, decide_eq_true_eq]
theorem Fr.uniq {a b p q : Int} (h1 : Fr (a, b)) (h2 : Fr (p, q)) (h : p * b = a * q) : p = a ∧ q = b := by
  obtain ⟨hb, hg⟩ := h1
  obtain ⟨hq, hg2⟩ := h2
  dsimp only at hb hg hq hg2
  have e : p.natAbs * b.natAbs = a.natAbs * q.natAbs := by rw [← Int.natAbs_mul, ← Int.natAbs_mul, h]
  have d1 : b.natAbs ∣ q.natAbs := Nat.Coprime.dvd_of_dvd_mul_left (Nat.Coprime.symm hg) ⟨p.natAbs, by rw [← e, Nat.mul_comm]⟩
  have d2 : q.natAbs ∣ b.natAbs := Nat.Coprime.dvd_of_dvd_mul_left (Nat.Coprime.symm hg2) ⟨a.natAbs, by rw [e, Nat.mul_comm]⟩
  have e2 : q.natAbs = b.natAbs := Nat.dvd_antisymm d2 d1
  have e3 : q = b := by omega
  subst e3
  exact ⟨Int.eq_of_mul_eq_mul_right (by omega) h, rfl⟩
def sg (t u : Int) : Int := if u < 0 then -((Nat.gcd t.natAbs u.natAbs : Nat) : Int) else ((Nat.gcd t.natAbs u.natAbs : Nat) : Int)
def low (t u : Int) : Int × Int := (t.fdiv (sg t u), u.fdiv (sg t u))
theorem sg_abs {t u : Int} : (sg t u).natAbs = Nat.gcd t.natAbs u.natAbs := by unfold sg; split <;> omega
theorem sg_ne {t u : Int} (h : u ≠ 0) : sg t u ≠ 0 := by
  have : 0 < Nat.gcd t.natAbs u.natAbs := Nat.gcd_pos_of_pos_right _ (by omega)
  have := @sg_abs t u
  omega
/-- the parts: t = s p, u = s q -/
theorem low_mul {t u : Int} (h : u ≠ 0) : t = sg t u * (low t u).1 ∧ u = sg t u * (low t u).2 := by
  have hs := sg_ne (t := t) h
  have d1 : sg t u ∣ t := Int.natAbs_dvd_natAbs.mp (by rw [sg_abs]; exact Nat.gcd_dvd_left _ _)
  have d2 : sg t u ∣ u := Int.natAbs_dvd_natAbs.mp (by rw [sg_abs]; exact Nat.gcd_dvd_right _ _)
  exact ⟨(Int.mul_fdiv_cancel' d1).symm, (Int.mul_fdiv_cancel' d2).symm⟩
theorem low_fr {t u : Int} (h : u ≠ 0) : Fr (low t u) := by
  have hs := sg_ne (t := t) h
  obtain ⟨e1, e2⟩ := low_mul (t := t) h
  have hg : 0 < Nat.gcd t.natAbs u.natAbs := Nat.gcd_pos_of_pos_right _ (by omega)
  refine ⟨?_, ?_⟩
  · generalize (low t u).2 = q at e2
    unfold sg at e2 hs
    split at e2
    · rename_i hu
      have : ((Nat.gcd t.natAbs u.natAbs : Nat) : Int) > 0 := by omega
      rcases Int.lt_or_le q 1 with hq | hq
      · have : -((Nat.gcd t.natAbs u.natAbs : Nat) : Int) * q ≥ 0 := Int.mul_nonneg_of_nonpos_of_nonpos (by omega) (by omega)
        omega
      · exact hq
    · rename_i hu
      rcases Int.lt_or_le q 1 with hq | hq
      · have : ((Nat.gcd t.natAbs u.natAbs : Nat) : Int) * q ≤ 0 := Int.mul_nonpos_of_nonneg_of_nonpos (by omega) (by omega)
        omega
      · exact hq
  · have e3 : t.natAbs = Nat.gcd t.natAbs u.natAbs * (low t u).1.natAbs := by
      have := congrArg Int.natAbs e1
      rw [Int.natAbs_mul, sg_abs] at this
      exact this
    have e4 : u.natAbs = Nat.gcd t.natAbs u.natAbs * (low t u).2.natAbs := by
      have := congrArg Int.natAbs e2
      rw [Int.natAbs_mul, sg_abs] at this
      exact this
    have e5 : Nat.gcd (Nat.gcd t.natAbs u.natAbs * (low t u).1.natAbs) (Nat.gcd t.natAbs u.natAbs * (low t u).2.natAbs) = Nat.gcd t.natAbs u.natAbs := by rw [← e3, ← e4]
    rw [Nat.gcd_mul_left] at e5
    exact Nat.eq_of_mul_eq_mul_left hg (by rw [e5, Nat.mul_one])
theorem low_eq {t u : Int} (h : u ≠ 0) : (low t u).1 * u = t * (low t u).2 := by
  obtain ⟨e1, e2⟩ := low_mul (t := t) h
  generalize (low t u).1 = p at e1 e2 ⊢
  generalize (low t u).2 = q at e1 e2 ⊢
  generalize sg t u = s at e1 e2
  grind
theorem low_bd {t u : Int} (h : u ≠ 0) : (low t u).1.natAbs ≤ t.natAbs ∧ (low t u).2.natAbs ≤ u.natAbs := by
  obtain ⟨e1, e2⟩ := low_mul (t := t) h
  have hs := sg_ne (t := t) h
  have h1 : 1 ≤ (sg t u).natAbs := by omega
  constructor
  · have := congrArg Int.natAbs e1
    rw [Int.natAbs_mul] at this
    have := Nat.mul_le_mul_right (low t u).1.natAbs h1
    omega
  · have := congrArg Int.natAbs e2
    rw [Int.natAbs_mul] at this
    have := Nat.mul_le_mul_right (low t u).2.natAbs h1
    omega
/-- what is told, from its fraction -/
theorem low_is {t u a b : Int} (h : u ≠ 0) (f : Fr (a, b)) (e : t * b = a * u) : low t u = (a, b) := by
  have f1 := low_fr (t := t) h
  have e1 := low_eq (t := t) h
  have hb : b ≠ 0 := by have := f.1; dsimp only at this; omega
  generalize low t u = z at f1 e1
  obtain ⟨p, q⟩ := z
  dsimp only at e1
  have e2 : p * b = a * q := by
    have : (p * b - a * q) * u = 0 := by grind
    rcases Int.mul_eq_zero.mp this with z | z
    · omega
    · exact absurd z h
  obtain ⟨rfl, rfl⟩ := f.uniq f1 e2
  rfl
abbrev dP (p : Int × Int) : D := .tup [.int p.1, .int p.2]
section
variable {Γ : Gam} {st : S}
theorem lowest_ok {t u : Int} {k : Nat} (hu : u ≠ 0) (hb : u.natAbs < 2 ^ k) (hk : k ≤ 8000) : runF Γ 3 Ex.lowest [.int t, .int u] st = .ok (dP (low t u)) st := by
  have hs := sg_ne (t := t) hu
  have hk0 : 0 < k := by
    rcases Nat.eq_zero_or_pos k with z | z
    · subst z; simp at hb; omega
    · exact z
  have hd : divOk (sg t u) = true := divOk_b hs (b := k) (by
    rw [sg_abs]
    exact Nat.lt_of_le_of_lt (Nat.le_of_dvd (by omega) (Nat.gcd_dvd_right _ _)) hb) hk0 (by omega)
  by_cases g : u < 0
  · have g' : decide (u < 0) = true := decide_eq_true g
    have e : -((Nat.gcd t.natAbs u.natAbs : Nat) : Int) = sg t u := by unfold sg; rw [if_pos g]
    simp only [Ex.lowest, runF_ap, runK_ret, runK_nx, runK_err, evSs_cs, evSs_nil, nxtS_nx, nxtS_ret, nxtS_err, nxtS_brk, nxtS_cont, bs_ok, bs_err, oo_some, selS_t, selS_f, evS_pass, evS_expr, evS_set, evS_par, evS_ret, evS_retN, evS_brk, evS_cont, evS_ite, evS_jput, evS_raise, evS_try, tryK, ev_var, ev_cst, ev_bin, ev_neg, ev_not, ev_cmp, ev_chain, ev_and, ev_or, ev_ite, ev_tup, ev_lst, ev_idx, ev_slc, ev_call, ev_bi, ev_isi, evs_nil, evs_cons, evo_none, evo_some, andK_bt, andK_bf, orK_bt, orK_bf, iteK_bt, iteK_bf, rb_ok, rb_err, mb_ap, mp_ap, lift_ap, gv_z, gv_s, List.map_cons, List.map_nil, List.length_cons, List.length_nil, List.length_set, List.replicate, List.cons_append, List.nil_append, Nat.reduceAdd, Nat.reduceSub, List.set_cons_zero, List.set_cons_succ, List.getElem?_cons_succ, List.getElem?_cons_zero, Option.map_some, Option.bind_some, assignN, setAll2, setAll3, setAll_nil, bin_add, bin_sub, bin_mul, bin_fdiv, bin_mod, bin_pow, cmp_lt, cmp_le, cmp_gt, cmp_ge, cmp_eqi, cmp_nei, negD_int, tru_bl, bi_int, bi_bl, bi_abs, bi_gcd, bi_lenl, bi_lent, isInt_int, jix, idxT0, idxT1, idxL0, idxL1, decide_true, decide_false, Bool.not_true, Bool.not_false, handle, g', e, hd, Nat.reduceLT, if_true, low]
  · have g' : decide (u < 0) = false := decide_eq_false g
    have e : ((Nat.gcd t.natAbs u.natAbs : Nat) : Int) = sg t u := by unfold sg; rw [if_neg g]
    simp only [Ex.lowest, runF_ap, runK_ret, runK_nx, runK_err, evSs_cs, evSs_nil, nxtS_nx, nxtS_ret, nxtS_err, nxtS_brk, nxtS_cont, bs_ok, bs_err, oo_some, selS_t, selS_f, evS_pass, evS_expr, evS_set, evS_par, evS_ret, evS_retN, evS_brk, evS_cont, evS_ite, evS_jput, evS_raise, evS_try, tryK, ev_var, ev_cst, ev_bin, ev_neg, ev_not, ev_cmp, ev_chain, ev_and, ev_or, ev_ite, ev_tup, ev_lst, ev_idx, ev_slc, ev_call, ev_bi, ev_isi, evs_nil, evs_cons, evo_none, evo_some, andK_bt, andK_bf, orK_bt, orK_bf, iteK_bt, iteK_bf, rb_ok, rb_err, mb_ap, mp_ap, lift_ap, gv_z, gv_s, List.map_cons, List.map_nil, List.length_cons, List.length_nil, List.length_set, List.replicate, List.cons_append, List.nil_append, Nat.reduceAdd, Nat.reduceSub, List.set_cons_zero, List.set_cons_succ, List.getElem?_cons_succ, List.getElem?_cons_zero, Option.map_some, Option.bind_some, assignN, setAll2, setAll3, setAll_nil, bin_add, bin_sub, bin_mul, bin_fdiv, bin_mod, bin_pow, cmp_lt, cmp_le, cmp_gt, cmp_ge, cmp_eqi, cmp_nei, negD_int, tru_bl, bi_int, bi_bl, bi_abs, bi_gcd, bi_lenl, bi_lent, isInt_int, jix, idxT0, idxT1, idxL0, idxL1, decide_true, decide_false, Bool.not_true, Bool.not_false, handle, g', e, hd, Nat.reduceLT, if_true, low]
/-- the pair that a number is -/
def nOf : D → Int × Int
  | .int a => (a, 1)
  | .tup [.int a, .int b] => (a, b)
  | .lst [.int a, .int b] => (a, b)
  | _ => (0, 1)
theorem isN_cases {d : D} (h : isN d = true) : (∃ a, d = .int a) ∨ (∃ a b, d = .tup [.int a, .int b] ∧ isP a b = true) ∨ (∃ a b, d = .lst [.int a, .int b] ∧ isP a b = true) := by
  unfold isN at h
  split at h
  · exact .inl ⟨_, rfl⟩
  · exact .inr (.inl ⟨_, _, rfl, h⟩)
  · exact .inr (.inr ⟨_, _, rfl, h⟩)
  · cases h
theorem isN_fr {d : D} (h : isN d = true) : Fr (nOf d) := by
  rcases isN_cases h with ⟨a, rfl⟩ | ⟨a, b, rfl, hp⟩ | ⟨a, b, rfl, hp⟩
  · exact ⟨Int.le_refl 1, by simp [nOf]⟩
  · exact isP_iff.mp hp
  · exact isP_iff.mp hp
theorem isN_ask {d : D} (h : isN d = true) : ask d = true := by
  rcases isN_cases h with ⟨a, rfl⟩ | ⟨a, b, rfl, hp⟩ | ⟨a, b, rfl, hp⟩ <;> rfl
theorem as_number_ok (K : HasI Γ) {d : D} (h : isN d = true) : runF Γ 1 Ex.as_number [d] st = .ok (dP (nOf d)) st := by
  rcases isN_cases h with ⟨a, rfl⟩ | ⟨a, b, rfl, hp⟩ | ⟨a, b, rfl, hp⟩
  · have e := K.int (.int a) st rfl
    simp only [isI] at e
    simp only [Ex.as_number, runF_ap, runK_ret, runK_nx, runK_err, evSs_cs, evSs_nil, nxtS_nx, nxtS_ret, nxtS_err, nxtS_brk, nxtS_cont, bs_ok, bs_err, oo_some, selS_t, selS_f, evS_pass, evS_expr, evS_set, evS_par, evS_ret, evS_retN, evS_brk, evS_cont, evS_ite, evS_jput, evS_raise, evS_try, tryK, ev_var, ev_cst, ev_bin, ev_neg, ev_not, ev_cmp, ev_chain, ev_and, ev_or, ev_ite, ev_tup, ev_lst, ev_idx, ev_slc, ev_call, ev_bi, ev_isi, evs_nil, evs_cons, evo_none, evo_some, andK_bt, andK_bf, orK_bt, orK_bf, iteK_bt, iteK_bf, rb_ok, rb_err, mb_ap, mp_ap, lift_ap, gv_z, gv_s, List.map_cons, List.map_nil, List.length_cons, List.length_nil, List.length_set, List.replicate, List.cons_append, List.nil_append, Nat.reduceAdd, Nat.reduceSub, List.set_cons_zero, List.set_cons_succ, List.getElem?_cons_succ, List.getElem?_cons_zero, Option.map_some, Option.bind_some, assignN, setAll2, setAll3, setAll_nil, bin_add, bin_sub, bin_mul, bin_fdiv, bin_mod, bin_pow, cmp_lt, cmp_le, cmp_gt, cmp_ge, cmp_eqi, cmp_nei, negD_int, tru_bl, bi_int, bi_bl, bi_abs, bi_gcd, bi_lenl, bi_lent, isInt_int, jix, idxT0, idxT1, idxL0, idxL1, decide_true, decide_false, Bool.not_true, Bool.not_false, handle, e, nOf]
  · have e := K.int (.tup [.int a, .int b]) st rfl
    simp only [isI] at e
    simp only [Ex.as_number, runF_ap, runK_ret, runK_nx, runK_err, evSs_cs, evSs_nil, nxtS_nx, nxtS_ret, nxtS_err, nxtS_brk, nxtS_cont, bs_ok, bs_err, oo_some, selS_t, selS_f, evS_pass, evS_expr, evS_set, evS_par, evS_ret, evS_retN, evS_brk, evS_cont, evS_ite, evS_jput, evS_raise, evS_try, tryK, ev_var, ev_cst, ev_bin, ev_neg, ev_not, ev_cmp, ev_chain, ev_and, ev_or, ev_ite, ev_tup, ev_lst, ev_idx, ev_slc, ev_call, ev_bi, ev_isi, evs_nil, evs_cons, evo_none, evo_some, andK_bt, andK_bf, orK_bt, orK_bf, iteK_bt, iteK_bf, rb_ok, rb_err, mb_ap, mp_ap, lift_ap, gv_z, gv_s, List.map_cons, List.map_nil, List.length_cons, List.length_nil, List.length_set, List.replicate, List.cons_append, List.nil_append, Nat.reduceAdd, Nat.reduceSub, List.set_cons_zero, List.set_cons_succ, List.getElem?_cons_succ, List.getElem?_cons_zero, Option.map_some, Option.bind_some, assignN, setAll2, setAll3, setAll_nil, bin_add, bin_sub, bin_mul, bin_fdiv, bin_mod, bin_pow, cmp_lt, cmp_le, cmp_gt, cmp_ge, cmp_eqi, cmp_nei, negD_int, tru_bl, bi_int, bi_bl, bi_abs, bi_gcd, bi_lenl, bi_lent, isInt_int, jix, idxT0, idxT1, idxL0, idxL1, decide_true, decide_false, Bool.not_true, Bool.not_false, handle, e, nOf]
  · have e := K.int (.lst [.int a, .int b]) st rfl
    simp only [isI] at e
    simp only [Ex.as_number, runF_ap, runK_ret, runK_nx, runK_err, evSs_cs, evSs_nil, nxtS_nx, nxtS_ret, nxtS_err, nxtS_brk, nxtS_cont, bs_ok, bs_err, oo_some, selS_t, selS_f, evS_pass, evS_expr, evS_set, evS_par, evS_ret, evS_retN, evS_brk, evS_cont, evS_ite, evS_jput, evS_raise, evS_try, tryK, ev_var, ev_cst, ev_bin, ev_neg, ev_not, ev_cmp, ev_chain, ev_and, ev_or, ev_ite, ev_tup, ev_lst, ev_idx, ev_slc, ev_call, ev_bi, ev_isi, evs_nil, evs_cons, evo_none, evo_some, andK_bt, andK_bf, orK_bt, orK_bf, iteK_bt, iteK_bf, rb_ok, rb_err, mb_ap, mp_ap, lift_ap, gv_z, gv_s, List.map_cons, List.map_nil, List.length_cons, List.length_nil, List.length_set, List.replicate, List.cons_append, List.nil_append, Nat.reduceAdd, Nat.reduceSub, List.set_cons_zero, List.set_cons_succ, List.getElem?_cons_succ, List.getElem?_cons_zero, Option.map_some, Option.bind_some, assignN, setAll2, setAll3, setAll_nil, bin_add, bin_sub, bin_mul, bin_fdiv, bin_mod, bin_pow, cmp_lt, cmp_le, cmp_gt, cmp_ge, cmp_eqi, cmp_nei, negD_int, tru_bl, bi_int, bi_bl, bi_abs, bi_gcd, bi_lenl, bi_lent, isInt_int, jix, idxT0, idxT1, idxL0, idxL1, decide_true, decide_false, Bool.not_true, Bool.not_false, handle, e, nOf]
end
end DE
/-! The plain side: sums, products, order -/
namespace DE
open PySem
namespace Ex
def sum_of : List CS := [(.ret (.call "lowest" [(.bin .add (.bin .mul (.idx (.var 0) (.cst (.int 0))) (.idx (.var 1) (.cst (.int 1)))) (.bin .mul (.idx (.var 1) (.cst (.int 0))) (.idx (.var 0) (.cst (.int 1))))), (.bin .mul (.idx (.var 0) (.cst (.int 1))) (.idx (.var 1) (.cst (.int 1))))]))]
def rest_of : List CS := [(.ret (.call "lowest" [(.bin .sub (.bin .mul (.idx (.var 0) (.cst (.int 0))) (.idx (.var 1) (.cst (.int 1)))) (.bin .mul (.idx (.var 1) (.cst (.int 0))) (.idx (.var 0) (.cst (.int 1))))), (.bin .mul (.idx (.var 0) (.cst (.int 1))) (.idx (.var 1) (.cst (.int 1))))]))]
def product_of : List CS := [(.ret (.call "lowest" [(.bin .mul (.idx (.var 0) (.cst (.int 0))) (.idx (.var 1) (.cst (.int 0)))), (.bin .mul (.idx (.var 0) (.cst (.int 1))) (.idx (.var 1) (.cst (.int 1))))]))]
def quotient_of : List CS := [(.ret (.call "lowest" [(.bin .mul (.idx (.var 0) (.cst (.int 0))) (.idx (.var 1) (.cst (.int 1)))), (.bin .mul (.idx (.var 0) (.cst (.int 1))) (.idx (.var 1) (.cst (.int 0))))]))]
def comes_before : List CS := [(.ret (.cmp .lt (.bin .mul (.idx (.var 0) (.cst (.int 0))) (.idx (.var 1) (.cst (.int 1)))) (.bin .mul (.idx (.var 1) (.cst (.int 0))) (.idx (.var 0) (.cst (.int 1))))))]
def two (op : Str) : List CS := [(.set (.nm 2) (.call "checked" [(.var 0), (.cst (.str "one"))])), (.ret (.call op [(.var 2), (.call "checked" [(.var 1), (.cst (.str "other"))])]))]
def over : List CS := [(.set (.nm 2) (.call "checked" [(.var 0), (.cst (.str "one"))])), (.set (.nm 3) (.call "checked" [(.var 1), (.cst (.str "other"))])), (.ite (.cmp .eq (.idx (.var 3) (.cst (.int 0))) (.cst (.int 0))) [(.raise "BadNumber" [(.cst (.str "other"))])] []), (.ret (.call "quotient_of" [(.var 2), (.var 3)]))]
def sign_of : List CS := [(.set (.nm 1) (.idx (.call "checked" [(.var 0), (.cst (.str "value"))]) (.cst (.int 0)))), (.ret (.bin .sub (.cmp .gt (.var 1) (.cst (.int 0))) (.cmp .lt (.var 1) (.cst (.int 0)))))]
def number : List CS := [(.ite (.not (.call "is_integer" [(.var 0)])) [(.raise "BadNumber" [(.cst (.str "top"))])] []), (.ite (.or (.not (.call "is_integer" [(.var 1)])) (.cmp .eq (.var 1) (.cst (.int 0)))) [(.raise "BadNumber" [(.cst (.str "under"))])] []), (.ret (.call "lowest" [(.var 0), (.var 1)]))]
end Ex
def badN (part : D) : Ex := ⟨"BadNumber", [("part", part)]⟩
theorem xf1 {f : Str} {d : D} : xFields [f] [d] = some [(f, d)] := by simp [xFields]
/-- is_number and as_number, as Γ has them -/
structure HasN (Γ : Gam) : Prop where
  isn : ∀ d st, ask d = true → Γ.fn "is_number" [d] st = .ok (.bl (isN d)) st
  asn : ∀ d st, isN d = true → Γ.fn "as_number" [d] st = .ok (dP (nOf d)) st
  ex : Γ.ex "BadNumber" = some [("part" : Str)]
structure HasC (Γ : Gam) : Prop where
  ok : ∀ d p st, isN d = true → Γ.fn "checked" [d, p] st = .ok (dP (nOf d)) st
  no : ∀ d p st, ask d = true → isN d = false → Γ.fn "checked" [d, p] st = .err (badN p) st
def Bd (k : Nat) (p : Int × Int) : Prop := p.1.natAbs < 2 ^ k ∧ p.2.natAbs < 2 ^ k
structure HasL (Γ : Gam) : Prop where
  ok : ∀ t u k st, u ≠ 0 → u.natAbs < 2 ^ k → k ≤ 8000 → Γ.fn "lowest" [.int t, .int u] st = .ok (dP (low t u)) st
section
variable {Γ : Gam} {st : S}
theorem checked_ok (K : HasN Γ) {d p : D} (h : isN d = true) : runF Γ 2 Ex.checked [d, p] st = .ok (dP (nOf d)) st := by
  have e1 := K.isn d st (isN_ask h)
  rw [h] at e1
  have e2 := K.asn d st h
  simp only [Ex.checked, runF_ap, runK_ret, runK_nx, runK_err, evSs_cs, evSs_nil, nxtS_nx, nxtS_ret, nxtS_err, nxtS_brk, nxtS_cont, bs_ok, bs_err, oo_some, selS_t, selS_f, evS_pass, evS_expr, evS_set, evS_par, evS_ret, evS_retN, evS_brk, evS_cont, evS_ite, evS_jput, evS_raise, evS_try, tryK, ev_var, ev_cst, ev_bin, ev_neg, ev_not, ev_cmp, ev_chain, ev_and, ev_or, ev_ite, ev_tup, ev_lst, ev_idx, ev_slc, ev_call, ev_bi, ev_isi, evs_nil, evs_cons, evo_none, evo_some, andK_bt, andK_bf, orK_bt, orK_bf, iteK_bt, iteK_bf, rb_ok, rb_err, mb_ap, mp_ap, lift_ap, gv_z, gv_s, List.map_cons, List.map_nil, List.length_cons, List.length_nil, List.length_set, List.replicate, List.cons_append, List.nil_append, Nat.reduceAdd, Nat.reduceSub, List.set_cons_zero, List.set_cons_succ, List.getElem?_cons_succ, List.getElem?_cons_zero, Option.map_some, Option.bind_some, assignN, setAll2, setAll3, setAll_nil, bin_add, bin_sub, bin_mul, bin_fdiv, bin_mod, bin_pow, cmp_lt, cmp_le, cmp_gt, cmp_ge, cmp_eqi, cmp_nei, negD_int, tru_bl, bi_int, bi_bl, bi_abs, bi_gcd, bi_lenl, bi_lent, isInt_int, jix, idxT0, idxT1, idxL0, idxL1, decide_true, decide_false, Bool.not_true, Bool.not_false, handle, e1, e2]
theorem checked_no (K : HasN Γ) {d p : D} (ha : ask d = true) (h : isN d = false) : runF Γ 2 Ex.checked [d, p] st = .err (badN p) st := by
  have e1 := K.isn d st ha
  rw [h] at e1
  simp only [Ex.checked, runF_ap, runK_ret, runK_nx, runK_err, evSs_cs, evSs_nil, nxtS_nx, nxtS_ret, nxtS_err, nxtS_brk, nxtS_cont, bs_ok, bs_err, oo_some, selS_t, selS_f, evS_pass, evS_expr, evS_set, evS_par, evS_ret, evS_retN, evS_brk, evS_cont, evS_ite, evS_jput, evS_raise, evS_try, tryK, ev_var, ev_cst, ev_bin, ev_neg, ev_not, ev_cmp, ev_chain, ev_and, ev_or, ev_ite, ev_tup, ev_lst, ev_idx, ev_slc, ev_call, ev_bi, ev_isi, evs_nil, evs_cons, evo_none, evo_some, andK_bt, andK_bf, orK_bt, orK_bf, iteK_bt, iteK_bf, rb_ok, rb_err, mb_ap, mp_ap, lift_ap, gv_z, gv_s, List.map_cons, List.map_nil, List.length_cons, List.length_nil, List.length_set, List.replicate, List.cons_append, List.nil_append, Nat.reduceAdd, Nat.reduceSub, List.set_cons_zero, List.set_cons_succ, List.getElem?_cons_succ, List.getElem?_cons_zero, Option.map_some, Option.bind_some, assignN, setAll2, setAll3, setAll_nil, bin_add, bin_sub, bin_mul, bin_fdiv, bin_mod, bin_pow, cmp_lt, cmp_le, cmp_gt, cmp_ge, cmp_eqi, cmp_nei, negD_int, tru_bl, bi_int, bi_bl, bi_abs, bi_gcd, bi_lenl, bi_lent, isInt_int, jix, idxT0, idxT1, idxL0, idxL1, decide_true, decide_false, Bool.not_true, Bool.not_false, handle, e1, K.ex, xf1]
  rfl
theorem two_ok (K : HasC Γ) {op : Str} {x y r : D} (h1 : isN x = true) (h2 : isN y = true) (e : Γ.fn op [dP (nOf x), dP (nOf y)] st = .ok r st) : runF Γ 3 (Ex.two op) [x, y] st = .ok r st := by
  have a1 := K.ok x (.str "one") st h1
  have a2 := K.ok y (.str "other") st h2
  simp only [Ex.two, runF_ap, runK_ret, runK_nx, runK_err, evSs_cs, evSs_nil, nxtS_nx, nxtS_ret, nxtS_err, nxtS_brk, nxtS_cont, bs_ok, bs_err, oo_some, selS_t, selS_f, evS_pass, evS_expr, evS_set, evS_par, evS_ret, evS_retN, evS_brk, evS_cont, evS_ite, evS_jput, evS_raise, evS_try, tryK, ev_var, ev_cst, ev_bin, ev_neg, ev_not, ev_cmp, ev_chain, ev_and, ev_or, ev_ite, ev_tup, ev_lst, ev_idx, ev_slc, ev_call, ev_bi, ev_isi, evs_nil, evs_cons, evo_none, evo_some, andK_bt, andK_bf, orK_bt, orK_bf, iteK_bt, iteK_bf, rb_ok, rb_err, mb_ap, mp_ap, lift_ap, gv_z, gv_s, List.map_cons, List.map_nil, List.length_cons, List.length_nil, List.length_set, List.replicate, List.cons_append, List.nil_append, Nat.reduceAdd, Nat.reduceSub, List.set_cons_zero, List.set_cons_succ, List.getElem?_cons_succ, List.getElem?_cons_zero, Option.map_some, Option.bind_some, assignN, setAll2, setAll3, setAll_nil, bin_add, bin_sub, bin_mul, bin_fdiv, bin_mod, bin_pow, cmp_lt, cmp_le, cmp_gt, cmp_ge, cmp_eqi, cmp_nei, negD_int, tru_bl, bi_int, bi_bl, bi_abs, bi_gcd, bi_lenl, bi_lent, isInt_int, jix, idxT0, idxT1, idxL0, idxL1, decide_true, decide_false, Bool.not_true, Bool.not_false, handle, a1, a2, e, Nat.reduceLT, if_true]
theorem two_no1 (K : HasC Γ) {op : Str} {x y : D} (ha : ask x = true) (h1 : isN x = false) : runF Γ 3 (Ex.two op) [x, y] st = .err (badN (.str "one")) st := by
  have a1 := K.no x (.str "one") st ha h1
  simp only [Ex.two, runF_ap, runK_ret, runK_nx, runK_err, evSs_cs, evSs_nil, nxtS_nx, nxtS_ret, nxtS_err, nxtS_brk, nxtS_cont, bs_ok, bs_err, oo_some, selS_t, selS_f, evS_pass, evS_expr, evS_set, evS_par, evS_ret, evS_retN, evS_brk, evS_cont, evS_ite, evS_jput, evS_raise, evS_try, tryK, ev_var, ev_cst, ev_bin, ev_neg, ev_not, ev_cmp, ev_chain, ev_and, ev_or, ev_ite, ev_tup, ev_lst, ev_idx, ev_slc, ev_call, ev_bi, ev_isi, evs_nil, evs_cons, evo_none, evo_some, andK_bt, andK_bf, orK_bt, orK_bf, iteK_bt, iteK_bf, rb_ok, rb_err, mb_ap, mp_ap, lift_ap, gv_z, gv_s, List.map_cons, List.map_nil, List.length_cons, List.length_nil, List.length_set, List.replicate, List.cons_append, List.nil_append, Nat.reduceAdd, Nat.reduceSub, List.set_cons_zero, List.set_cons_succ, List.getElem?_cons_succ, List.getElem?_cons_zero, Option.map_some, Option.bind_some, assignN, setAll2, setAll3, setAll_nil, bin_add, bin_sub, bin_mul, bin_fdiv, bin_mod, bin_pow, cmp_lt, cmp_le, cmp_gt, cmp_ge, cmp_eqi, cmp_nei, negD_int, tru_bl, bi_int, bi_bl, bi_abs, bi_gcd, bi_lenl, bi_lent, isInt_int, jix, idxT0, idxT1, idxL0, idxL1, decide_true, decide_false, Bool.not_true, Bool.not_false, handle, a1]
theorem two_no2 (K : HasC Γ) {op : Str} {x y : D} (h1 : isN x = true) (ha : ask y = true) (h2 : isN y = false) : runF Γ 3 (Ex.two op) [x, y] st = .err (badN (.str "other")) st := by
  have a1 := K.ok x (.str "one") st h1
  have a2 := K.no y (.str "other") st ha h2
  simp only [Ex.two, runF_ap, runK_ret, runK_nx, runK_err, evSs_cs, evSs_nil, nxtS_nx, nxtS_ret, nxtS_err, nxtS_brk, nxtS_cont, bs_ok, bs_err, oo_some, selS_t, selS_f, evS_pass, evS_expr, evS_set, evS_par, evS_ret, evS_retN, evS_brk, evS_cont, evS_ite, evS_jput, evS_raise, evS_try, tryK, ev_var, ev_cst, ev_bin, ev_neg, ev_not, ev_cmp, ev_chain, ev_and, ev_or, ev_ite, ev_tup, ev_lst, ev_idx, ev_slc, ev_call, ev_bi, ev_isi, evs_nil, evs_cons, evo_none, evo_some, andK_bt, andK_bf, orK_bt, orK_bf, iteK_bt, iteK_bf, rb_ok, rb_err, mb_ap, mp_ap, lift_ap, gv_z, gv_s, List.map_cons, List.map_nil, List.length_cons, List.length_nil, List.length_set, List.replicate, List.cons_append, List.nil_append, Nat.reduceAdd, Nat.reduceSub, List.set_cons_zero, List.set_cons_succ, List.getElem?_cons_succ, List.getElem?_cons_zero, Option.map_some, Option.bind_some, assignN, setAll2, setAll3, setAll_nil, bin_add, bin_sub, bin_mul, bin_fdiv, bin_mod, bin_pow, cmp_lt, cmp_le, cmp_gt, cmp_ge, cmp_eqi, cmp_nei, negD_int, tru_bl, bi_int, bi_bl, bi_abs, bi_gcd, bi_lenl, bi_lent, isInt_int, jix, idxT0, idxT1, idxL0, idxL1, decide_true, decide_false, Bool.not_true, Bool.not_false, handle, a1, a2, Nat.reduceLT, if_true]
theorem bd_mul {x y : Int} {k : Nat} (hx : x.natAbs < 2 ^ k) (hy : y.natAbs < 2 ^ k) : (x * y).natAbs < 2 ^ (k + k) := by
  rw [Int.natAbs_mul, Nat.pow_add]
  exact Nat.mul_lt_mul'' hx hy
theorem mulOk_k {x y : Int} {k : Nat} (h0 : 0 < k) (hk : k ≤ 4000) (hx : x.natAbs < 2 ^ k) (hy : y.natAbs < 2 ^ k) : mulOk x y = true := mulOk_b hx hy h0 h0 (by omega)
def addF (a b : Int × Int) : Int × Int := low (a.1 * b.2 + b.1 * a.2) (a.2 * b.2)
def subF (a b : Int × Int) : Int × Int := low (a.1 * b.2 - b.1 * a.2) (a.2 * b.2)
def mulF (a b : Int × Int) : Int × Int := low (a.1 * b.1) (a.2 * b.2)
def divF (a b : Int × Int) : Int × Int := low (a.1 * b.2) (a.2 * b.1)
variable {a b : Int × Int} {k : Nat}
theorem sum_ok (L : HasL Γ) (h0 : 0 < k) (hk : k ≤ 4000) (ha : Bd k a) (hb : Bd k b) (na : a.2 ≠ 0) (nb : b.2 ≠ 0) : runF Γ 2 Ex.sum_of [dP a, dP b] st = .ok (dP (addF a b)) st := by
  have m1 := mulOk_k h0 hk ha.1 hb.2
  have m2 := mulOk_k h0 hk hb.1 ha.2
  have m3 := mulOk_k h0 hk ha.2 hb.2
  have e := L.ok (a.1 * b.2 + b.1 * a.2) (a.2 * b.2) (k + k) st (Int.mul_ne_zero na nb) (bd_mul ha.2 hb.2) (by omega)
  simp only [Ex.sum_of, dP, runF_ap, runK_ret, runK_nx, runK_err, evSs_cs, evSs_nil, nxtS_nx, nxtS_ret, nxtS_err, nxtS_brk, nxtS_cont, bs_ok, bs_err, oo_some, selS_t, selS_f, evS_pass, evS_expr, evS_set, evS_par, evS_ret, evS_retN, evS_brk, evS_cont, evS_ite, evS_jput, evS_raise, evS_try, tryK, ev_var, ev_cst, ev_bin, ev_neg, ev_not, ev_cmp, ev_chain, ev_and, ev_or, ev_ite, ev_tup, ev_lst, ev_idx, ev_slc, ev_call, ev_bi, ev_isi, evs_nil, evs_cons, evo_none, evo_some, andK_bt, andK_bf, orK_bt, orK_bf, iteK_bt, iteK_bf, rb_ok, rb_err, mb_ap, mp_ap, lift_ap, gv_z, gv_s, List.map_cons, List.map_nil, List.length_cons, List.length_nil, List.length_set, List.replicate, List.cons_append, List.nil_append, Nat.reduceAdd, Nat.reduceSub, List.set_cons_zero, List.set_cons_succ, List.getElem?_cons_succ, List.getElem?_cons_zero, Option.map_some, Option.bind_some, assignN, setAll2, setAll3, setAll_nil, bin_add, bin_sub, bin_mul, bin_fdiv, bin_mod, bin_pow, cmp_lt, cmp_le, cmp_gt, cmp_ge, cmp_eqi, cmp_nei, negD_int, tru_bl, bi_int, bi_bl, bi_abs, bi_gcd, bi_lenl, bi_lent, isInt_int, jix, idxT0, idxT1, idxL0, idxL1, decide_true, decide_false, Bool.not_true, Bool.not_false, handle, m1, m2, m3]
  rw [e]
  simp only [runF_ap, runK_ret, runK_nx, runK_err, evSs_cs, evSs_nil, nxtS_nx, nxtS_ret, nxtS_err, nxtS_brk, nxtS_cont, bs_ok, bs_err, oo_some, selS_t, selS_f, evS_pass, evS_expr, evS_set, evS_par, evS_ret, evS_retN, evS_brk, evS_cont, evS_ite, evS_jput, evS_raise, evS_try, tryK, ev_var, ev_cst, ev_bin, ev_neg, ev_not, ev_cmp, ev_chain, ev_and, ev_or, ev_ite, ev_tup, ev_lst, ev_idx, ev_slc, ev_call, ev_bi, ev_isi, evs_nil, evs_cons, evo_none, evo_some, andK_bt, andK_bf, orK_bt, orK_bf, iteK_bt, iteK_bf, rb_ok, rb_err, mb_ap, mp_ap, lift_ap, gv_z, gv_s, List.map_cons, List.map_nil, List.length_cons, List.length_nil, List.length_set, List.replicate, List.cons_append, List.nil_append, Nat.reduceAdd, Nat.reduceSub, List.set_cons_zero, List.set_cons_succ, List.getElem?_cons_succ, List.getElem?_cons_zero, Option.map_some, Option.bind_some, assignN, setAll2, setAll3, setAll_nil, bin_add, bin_sub, bin_mul, bin_fdiv, bin_mod, bin_pow, cmp_lt, cmp_le, cmp_gt, cmp_ge, cmp_eqi, cmp_nei, negD_int, tru_bl, bi_int, bi_bl, bi_abs, bi_gcd, bi_lenl, bi_lent, isInt_int, jix, idxT0, idxT1, idxL0, idxL1, decide_true, decide_false, Bool.not_true, Bool.not_false, handle, addF, dP]
theorem rest_ok (L : HasL Γ) (h0 : 0 < k) (hk : k ≤ 4000) (ha : Bd k a) (hb : Bd k b) (na : a.2 ≠ 0) (nb : b.2 ≠ 0) : runF Γ 2 Ex.rest_of [dP a, dP b] st = .ok (dP (subF a b)) st := by
  have m1 := mulOk_k h0 hk ha.1 hb.2
  have m2 := mulOk_k h0 hk hb.1 ha.2
  have m3 := mulOk_k h0 hk ha.2 hb.2
  have e := L.ok (a.1 * b.2 - b.1 * a.2) (a.2 * b.2) (k + k) st (Int.mul_ne_zero na nb) (bd_mul ha.2 hb.2) (by omega)
  simp only [Ex.rest_of, dP, runF_ap, runK_ret, runK_nx, runK_err, evSs_cs, evSs_nil, nxtS_nx, nxtS_ret, nxtS_err, nxtS_brk, nxtS_cont, bs_ok, bs_err, oo_some, selS_t, selS_f, evS_pass, evS_expr, evS_set, evS_par, evS_ret, evS_retN, evS_brk, evS_cont, evS_ite, evS_jput, evS_raise, evS_try, tryK, ev_var, ev_cst, ev_bin, ev_neg, ev_not, ev_cmp, ev_chain, ev_and, ev_or, ev_ite, ev_tup, ev_lst, ev_idx, ev_slc, ev_call, ev_bi, ev_isi, evs_nil, evs_cons, evo_none, evo_some, andK_bt, andK_bf, orK_bt, orK_bf, iteK_bt, iteK_bf, rb_ok, rb_err, mb_ap, mp_ap, lift_ap, gv_z, gv_s, List.map_cons, List.map_nil, List.length_cons, List.length_nil, List.length_set, List.replicate, List.cons_append, List.nil_append, Nat.reduceAdd, Nat.reduceSub, List.set_cons_zero, List.set_cons_succ, List.getElem?_cons_succ, List.getElem?_cons_zero, Option.map_some, Option.bind_some, assignN, setAll2, setAll3, setAll_nil, bin_add, bin_sub, bin_mul, bin_fdiv, bin_mod, bin_pow, cmp_lt, cmp_le, cmp_gt, cmp_ge, cmp_eqi, cmp_nei, negD_int, tru_bl, bi_int, bi_bl, bi_abs, bi_gcd, bi_lenl, bi_lent, isInt_int, jix, idxT0, idxT1, idxL0, idxL1, decide_true, decide_false, Bool.not_true, Bool.not_false, handle, m1, m2, m3]
  rw [e]
  simp only [runF_ap, runK_ret, runK_nx, runK_err, evSs_cs, evSs_nil, nxtS_nx, nxtS_ret, nxtS_err, nxtS_brk, nxtS_cont, bs_ok, bs_err, oo_some, selS_t, selS_f, evS_pass, evS_expr, evS_set, evS_par, evS_ret, evS_retN, evS_brk, evS_cont, evS_ite, evS_jput, evS_raise, evS_try, tryK, ev_var, ev_cst, ev_bin, ev_neg, ev_not, ev_cmp, ev_chain, ev_and, ev_or, ev_ite, ev_tup, ev_lst, ev_idx, ev_slc, ev_call, ev_bi, ev_isi, evs_nil, evs_cons, evo_none, evo_some, andK_bt, andK_bf, orK_bt, orK_bf, iteK_bt, iteK_bf, rb_ok, rb_err, mb_ap, mp_ap, lift_ap, gv_z, gv_s, List.map_cons, List.map_nil, List.length_cons, List.length_nil, List.length_set, List.replicate, List.cons_append, List.nil_append, Nat.reduceAdd, Nat.reduceSub, List.set_cons_zero, List.set_cons_succ, List.getElem?_cons_succ, List.getElem?_cons_zero, Option.map_some, Option.bind_some, assignN, setAll2, setAll3, setAll_nil, bin_add, bin_sub, bin_mul, bin_fdiv, bin_mod, bin_pow, cmp_lt, cmp_le, cmp_gt, cmp_ge, cmp_eqi, cmp_nei, negD_int, tru_bl, bi_int, bi_bl, bi_abs, bi_gcd, bi_lenl, bi_lent, isInt_int, jix, idxT0, idxT1, idxL0, idxL1, decide_true, decide_false, Bool.not_true, Bool.not_false, handle, subF, dP]
theorem prod_ok (L : HasL Γ) (h0 : 0 < k) (hk : k ≤ 4000) (ha : Bd k a) (hb : Bd k b) (na : a.2 ≠ 0) (nb : b.2 ≠ 0) : runF Γ 2 Ex.product_of [dP a, dP b] st = .ok (dP (mulF a b)) st := by
  have m1 := mulOk_k h0 hk ha.1 hb.1
  have m3 := mulOk_k h0 hk ha.2 hb.2
  have e := L.ok (a.1 * b.1) (a.2 * b.2) (k + k) st (Int.mul_ne_zero na nb) (bd_mul ha.2 hb.2) (by omega)
  simp only [Ex.product_of, dP, runF_ap, runK_ret, runK_nx, runK_err, evSs_cs, evSs_nil, nxtS_nx, nxtS_ret, nxtS_err, nxtS_brk, nxtS_cont, bs_ok, bs_err, oo_some, selS_t, selS_f, evS_pass, evS_expr, evS_set, evS_par, evS_ret, evS_retN, evS_brk, evS_cont, evS_ite, evS_jput, evS_raise, evS_try, tryK, ev_var, ev_cst, ev_bin, ev_neg, ev_not, ev_cmp, ev_chain, ev_and, ev_or, ev_ite, ev_tup, ev_lst, ev_idx, ev_slc, ev_call, ev_bi, ev_isi, evs_nil, evs_cons, evo_none, evo_some, andK_bt, andK_bf, orK_bt, orK_bf, iteK_bt, iteK_bf, rb_ok, rb_err, mb_ap, mp_ap, lift_ap, gv_z, gv_s, List.map_cons, List.map_nil, List.length_cons, List.length_nil, List.length_set, List.replicate, List.cons_append, List.nil_append, Nat.reduceAdd, Nat.reduceSub, List.set_cons_zero, List.set_cons_succ, List.getElem?_cons_succ, List.getElem?_cons_zero, Option.map_some, Option.bind_some, assignN, setAll2, setAll3, setAll_nil, bin_add, bin_sub, bin_mul, bin_fdiv, bin_mod, bin_pow, cmp_lt, cmp_le, cmp_gt, cmp_ge, cmp_eqi, cmp_nei, negD_int, tru_bl, bi_int, bi_bl, bi_abs, bi_gcd, bi_lenl, bi_lent, isInt_int, jix, idxT0, idxT1, idxL0, idxL1, decide_true, decide_false, Bool.not_true, Bool.not_false, handle, m1, m3]
  rw [e]
  simp only [runF_ap, runK_ret, runK_nx, runK_err, evSs_cs, evSs_nil, nxtS_nx, nxtS_ret, nxtS_err, nxtS_brk, nxtS_cont, bs_ok, bs_err, oo_some, selS_t, selS_f, evS_pass, evS_expr, evS_set, evS_par, evS_ret, evS_retN, evS_brk, evS_cont, evS_ite, evS_jput, evS_raise, evS_try, tryK, ev_var, ev_cst, ev_bin, ev_neg, ev_not, ev_cmp, ev_chain, ev_and, ev_or, ev_ite, ev_tup, ev_lst, ev_idx, ev_slc, ev_call, ev_bi, ev_isi, evs_nil, evs_cons, evo_none, evo_some, andK_bt, andK_bf, orK_bt, orK_bf, iteK_bt, iteK_bf, rb_ok, rb_err, mb_ap, mp_ap, lift_ap, gv_z, gv_s, List.map_cons, List.map_nil, List.length_cons, List.length_nil, List.length_set, List.replicate, List.cons_append, List.nil_append, Nat.reduceAdd, Nat.reduceSub, List.set_cons_zero, List.set_cons_succ, List.getElem?_cons_succ, List.getElem?_cons_zero, Option.map_some, Option.bind_some, assignN, setAll2, setAll3, setAll_nil, bin_add, bin_sub, bin_mul, bin_fdiv, bin_mod, bin_pow, cmp_lt, cmp_le, cmp_gt, cmp_ge, cmp_eqi, cmp_nei, negD_int, tru_bl, bi_int, bi_bl, bi_abs, bi_gcd, bi_lenl, bi_lent, isInt_int, jix, idxT0, idxT1, idxL0, idxL1, decide_true, decide_false, Bool.not_true, Bool.not_false, handle, mulF, dP]
theorem quot_ok (L : HasL Γ) (h0 : 0 < k) (hk : k ≤ 4000) (ha : Bd k a) (hb : Bd k b) (na : a.2 ≠ 0) (nb : b.1 ≠ 0) : runF Γ 2 Ex.quotient_of [dP a, dP b] st = .ok (dP (divF a b)) st := by
  have m1 := mulOk_k h0 hk ha.1 hb.2
  have m3 := mulOk_k h0 hk ha.2 hb.1
  have e := L.ok (a.1 * b.2) (a.2 * b.1) (k + k) st (Int.mul_ne_zero na nb) (bd_mul ha.2 hb.1) (by omega)
  simp only [Ex.quotient_of, dP, runF_ap, runK_ret, runK_nx, runK_err, evSs_cs, evSs_nil, nxtS_nx, nxtS_ret, nxtS_err, nxtS_brk, nxtS_cont, bs_ok, bs_err, oo_some, selS_t, selS_f, evS_pass, evS_expr, evS_set, evS_par, evS_ret, evS_retN, evS_brk, evS_cont, evS_ite, evS_jput, evS_raise, evS_try, tryK, ev_var, ev_cst, ev_bin, ev_neg, ev_not, ev_cmp, ev_chain, ev_and, ev_or, ev_ite, ev_tup, ev_lst, ev_idx, ev_slc, ev_call, ev_bi, ev_isi, evs_nil, evs_cons, evo_none, evo_some, andK_bt, andK_bf, orK_bt, orK_bf, iteK_bt, iteK_bf, rb_ok, rb_err, mb_ap, mp_ap, lift_ap, gv_z, gv_s, List.map_cons, List.map_nil, List.length_cons, List.length_nil, List.length_set, List.replicate, List.cons_append, List.nil_append, Nat.reduceAdd, Nat.reduceSub, List.set_cons_zero, List.set_cons_succ, List.getElem?_cons_succ, List.getElem?_cons_zero, Option.map_some, Option.bind_some, assignN, setAll2, setAll3, setAll_nil, bin_add, bin_sub, bin_mul, bin_fdiv, bin_mod, bin_pow, cmp_lt, cmp_le, cmp_gt, cmp_ge, cmp_eqi, cmp_nei, negD_int, tru_bl, bi_int, bi_bl, bi_abs, bi_gcd, bi_lenl, bi_lent, isInt_int, jix, idxT0, idxT1, idxL0, idxL1, decide_true, decide_false, Bool.not_true, Bool.not_false, handle, m1, m3]
  rw [e]
  simp only [runF_ap, runK_ret, runK_nx, runK_err, evSs_cs, evSs_nil, nxtS_nx, nxtS_ret, nxtS_err, nxtS_brk, nxtS_cont, bs_ok, bs_err, oo_some, selS_t, selS_f, evS_pass, evS_expr, evS_set, evS_par, evS_ret, evS_retN, evS_brk, evS_cont, evS_ite, evS_jput, evS_raise, evS_try, tryK, ev_var, ev_cst, ev_bin, ev_neg, ev_not, ev_cmp, ev_chain, ev_and, ev_or, ev_ite, ev_tup, ev_lst, ev_idx, ev_slc, ev_call, ev_bi, ev_isi, evs_nil, evs_cons, evo_none, evo_some, andK_bt, andK_bf, orK_bt, orK_bf, iteK_bt, iteK_bf, rb_ok, rb_err, mb_ap, mp_ap, lift_ap, gv_z, gv_s, List.map_cons, List.map_nil, List.length_cons, List.length_nil, List.length_set, List.replicate, List.cons_append, List.nil_append, Nat.reduceAdd, Nat.reduceSub, List.set_cons_zero, List.set_cons_succ, List.getElem?_cons_succ, List.getElem?_cons_zero, Option.map_some, Option.bind_some, assignN, setAll2, setAll3, setAll_nil, bin_add, bin_sub, bin_mul, bin_fdiv, bin_mod, bin_pow, cmp_lt, cmp_le, cmp_gt, cmp_ge, cmp_eqi, cmp_nei, negD_int, tru_bl, bi_int, bi_bl, bi_abs, bi_gcd, bi_lenl, bi_lent, isInt_int, jix, idxT0, idxT1, idxL0, idxL1, decide_true, decide_false, Bool.not_true, Bool.not_false, handle, divF, dP]
theorem before_ok (h0 : 0 < k) (hk : k ≤ 4000) (ha : Bd k a) (hb : Bd k b) : runF Γ 2 Ex.comes_before [dP a, dP b] st = .ok (.bl (decide (a.1 * b.2 < b.1 * a.2))) st := by
  have m1 := mulOk_k h0 hk ha.1 hb.2
  have m2 := mulOk_k h0 hk hb.1 ha.2
  simp only [Ex.comes_before, dP, runF_ap, runK_ret, runK_nx, runK_err, evSs_cs, evSs_nil, nxtS_nx, nxtS_ret, nxtS_err, nxtS_brk, nxtS_cont, bs_ok, bs_err, oo_some, selS_t, selS_f, evS_pass, evS_expr, evS_set, evS_par, evS_ret, evS_retN, evS_brk, evS_cont, evS_ite, evS_jput, evS_raise, evS_try, tryK, ev_var, ev_cst, ev_bin, ev_neg, ev_not, ev_cmp, ev_chain, ev_and, ev_or, ev_ite, ev_tup, ev_lst, ev_idx, ev_slc, ev_call, ev_bi, ev_isi, evs_nil, evs_cons, evo_none, evo_some, andK_bt, andK_bf, orK_bt, orK_bf, iteK_bt, iteK_bf, rb_ok, rb_err, mb_ap, mp_ap, lift_ap, gv_z, gv_s, List.map_cons, List.map_nil, List.length_cons, List.length_nil, List.length_set, List.replicate, List.cons_append, List.nil_append, Nat.reduceAdd, Nat.reduceSub, List.set_cons_zero, List.set_cons_succ, List.getElem?_cons_succ, List.getElem?_cons_zero, Option.map_some, Option.bind_some, assignN, setAll2, setAll3, setAll_nil, bin_add, bin_sub, bin_mul, bin_fdiv, bin_mod, bin_pow, cmp_lt, cmp_le, cmp_gt, cmp_ge, cmp_eqi, cmp_nei, negD_int, tru_bl, bi_int, bi_bl, bi_abs, bi_gcd, bi_lenl, bi_lent, isInt_int, jix, idxT0, idxT1, idxL0, idxL1, decide_true, decide_false, Bool.not_true, Bool.not_false, handle, m1, m2]
theorem over_ok (K : HasC Γ) {x y r : D} (h1 : isN x = true) (h2 : isN y = true) (hz : (nOf y).1 ≠ 0) (e : Γ.fn "quotient_of" [dP (nOf x), dP (nOf y)] st = .ok r st) : runF Γ 4 Ex.over [x, y] st = .ok r st := by
  have a1 := K.ok x (.str "one") st h1
  have a2 := K.ok y (.str "other") st h2
  have z : decide ((nOf y).1 = 0) = false := decide_eq_false hz
  simp only [Ex.over, runF_ap, runK_ret, runK_nx, runK_err, evSs_cs, evSs_nil, nxtS_nx, nxtS_ret, nxtS_err, nxtS_brk, nxtS_cont, bs_ok, bs_err, oo_some, selS_t, selS_f, evS_pass, evS_expr, evS_set, evS_par, evS_ret, evS_retN, evS_brk, evS_cont, evS_ite, evS_jput, evS_raise, evS_try, tryK, ev_var, ev_cst, ev_bin, ev_neg, ev_not, ev_cmp, ev_chain, ev_and, ev_or, ev_ite, ev_tup, ev_lst, ev_idx, ev_slc, ev_call, ev_bi, ev_isi, evs_nil, evs_cons, evo_none, evo_some, andK_bt, andK_bf, orK_bt, orK_bf, iteK_bt, iteK_bf, rb_ok, rb_err, mb_ap, mp_ap, lift_ap, gv_z, gv_s, List.map_cons, List.map_nil, List.length_cons, List.length_nil, List.length_set, List.replicate, List.cons_append, List.nil_append, Nat.reduceAdd, Nat.reduceSub, List.set_cons_zero, List.set_cons_succ, List.getElem?_cons_succ, List.getElem?_cons_zero, Option.map_some, Option.bind_some, assignN, setAll2, setAll3, setAll_nil, bin_add, bin_sub, bin_mul, bin_fdiv, bin_mod, bin_pow, cmp_lt, cmp_le, cmp_gt, cmp_ge, cmp_eqi, cmp_nei, negD_int, tru_bl, bi_int, bi_bl, bi_abs, bi_gcd, bi_lenl, bi_lent, isInt_int, jix, idxT0, idxT1, idxL0, idxL1, decide_true, decide_false, Bool.not_true, Bool.not_false, handle, a1, a2, z, Nat.reduceLT, if_true]
  rw [e]
  simp only [runF_ap, runK_ret, runK_nx, runK_err, evSs_cs, evSs_nil, nxtS_nx, nxtS_ret, nxtS_err, nxtS_brk, nxtS_cont, bs_ok, bs_err, oo_some, selS_t, selS_f, evS_pass, evS_expr, evS_set, evS_par, evS_ret, evS_retN, evS_brk, evS_cont, evS_ite, evS_jput, evS_raise, evS_try, tryK, ev_var, ev_cst, ev_bin, ev_neg, ev_not, ev_cmp, ev_chain, ev_and, ev_or, ev_ite, ev_tup, ev_lst, ev_idx, ev_slc, ev_call, ev_bi, ev_isi, evs_nil, evs_cons, evo_none, evo_some, andK_bt, andK_bf, orK_bt, orK_bf, iteK_bt, iteK_bf, rb_ok, rb_err, mb_ap, mp_ap, lift_ap, gv_z, gv_s, List.map_cons, List.map_nil, List.length_cons, List.length_nil, List.length_set, List.replicate, List.cons_append, List.nil_append, Nat.reduceAdd, Nat.reduceSub, List.set_cons_zero, List.set_cons_succ, List.getElem?_cons_succ, List.getElem?_cons_zero, Option.map_some, Option.bind_some, assignN, setAll2, setAll3, setAll_nil, bin_add, bin_sub, bin_mul, bin_fdiv, bin_mod, bin_pow, cmp_lt, cmp_le, cmp_gt, cmp_ge, cmp_eqi, cmp_nei, negD_int, tru_bl, bi_int, bi_bl, bi_abs, bi_gcd, bi_lenl, bi_lent, isInt_int, jix, idxT0, idxT1, idxL0, idxL1, decide_true, decide_false, Bool.not_true, Bool.not_false, handle]
theorem over_no1 (K : HasC Γ) {x y : D} (ha : ask x = true) (h1 : isN x = false) : runF Γ 4 Ex.over [x, y] st = .err (badN (.str "one")) st := by
  have a1 := K.no x (.str "one") st ha h1
  simp only [Ex.over, runF_ap, runK_ret, runK_nx, runK_err, evSs_cs, evSs_nil, nxtS_nx, nxtS_ret, nxtS_err, nxtS_brk, nxtS_cont, bs_ok, bs_err, oo_some, selS_t, selS_f, evS_pass, evS_expr, evS_set, evS_par, evS_ret, evS_retN, evS_brk, evS_cont, evS_ite, evS_jput, evS_raise, evS_try, tryK, ev_var, ev_cst, ev_bin, ev_neg, ev_not, ev_cmp, ev_chain, ev_and, ev_or, ev_ite, ev_tup, ev_lst, ev_idx, ev_slc, ev_call, ev_bi, ev_isi, evs_nil, evs_cons, evo_none, evo_some, andK_bt, andK_bf, orK_bt, orK_bf, iteK_bt, iteK_bf, rb_ok, rb_err, mb_ap, mp_ap, lift_ap, gv_z, gv_s, List.map_cons, List.map_nil, List.length_cons, List.length_nil, List.length_set, List.replicate, List.cons_append, List.nil_append, Nat.reduceAdd, Nat.reduceSub, List.set_cons_zero, List.set_cons_succ, List.getElem?_cons_succ, List.getElem?_cons_zero, Option.map_some, Option.bind_some, assignN, setAll2, setAll3, setAll_nil, bin_add, bin_sub, bin_mul, bin_fdiv, bin_mod, bin_pow, cmp_lt, cmp_le, cmp_gt, cmp_ge, cmp_eqi, cmp_nei, negD_int, tru_bl, bi_int, bi_bl, bi_abs, bi_gcd, bi_lenl, bi_lent, isInt_int, jix, idxT0, idxT1, idxL0, idxL1, decide_true, decide_false, Bool.not_true, Bool.not_false, handle, a1]
theorem over_no2 (K : HasC Γ) {x y : D} (h1 : isN x = true) (ha : ask y = true) (h2 : isN y = false) : runF Γ 4 Ex.over [x, y] st = .err (badN (.str "other")) st := by
  have a1 := K.ok x (.str "one") st h1
  have a2 := K.no y (.str "other") st ha h2
  simp only [Ex.over, runF_ap, runK_ret, runK_nx, runK_err, evSs_cs, evSs_nil, nxtS_nx, nxtS_ret, nxtS_err, nxtS_brk, nxtS_cont, bs_ok, bs_err, oo_some, selS_t, selS_f, evS_pass, evS_expr, evS_set, evS_par, evS_ret, evS_retN, evS_brk, evS_cont, evS_ite, evS_jput, evS_raise, evS_try, tryK, ev_var, ev_cst, ev_bin, ev_neg, ev_not, ev_cmp, ev_chain, ev_and, ev_or, ev_ite, ev_tup, ev_lst, ev_idx, ev_slc, ev_call, ev_bi, ev_isi, evs_nil, evs_cons, evo_none, evo_some, andK_bt, andK_bf, orK_bt, orK_bf, iteK_bt, iteK_bf, rb_ok, rb_err, mb_ap, mp_ap, lift_ap, gv_z, gv_s, List.map_cons, List.map_nil, List.length_cons, List.length_nil, List.length_set, List.replicate, List.cons_append, List.nil_append, Nat.reduceAdd, Nat.reduceSub, List.set_cons_zero, List.set_cons_succ, List.getElem?_cons_succ, List.getElem?_cons_zero, Option.map_some, Option.bind_some, assignN, setAll2, setAll3, setAll_nil, bin_add, bin_sub, bin_mul, bin_fdiv, bin_mod, bin_pow, cmp_lt, cmp_le, cmp_gt, cmp_ge, cmp_eqi, cmp_nei, negD_int, tru_bl, bi_int, bi_bl, bi_abs, bi_gcd, bi_lenl, bi_lent, isInt_int, jix, idxT0, idxT1, idxL0, idxL1, decide_true, decide_false, Bool.not_true, Bool.not_false, handle, a1, a2, Nat.reduceLT, if_true]
theorem over_no3 (K : HasC Γ) (hex : Γ.ex "BadNumber" = some [("part" : Str)]) {x y : D} (h1 : isN x = true) (h2 : isN y = true) (hz : (nOf y).1 = 0) : runF Γ 4 Ex.over [x, y] st = .err (badN (.str "other")) st := by
  have a1 := K.ok x (.str "one") st h1
  have a2 := K.ok y (.str "other") st h2
  have z : decide ((nOf y).1 = 0) = true := decide_eq_true hz
  simp only [Ex.over, runF_ap, runK_ret, runK_nx, runK_err, evSs_cs, evSs_nil, nxtS_nx, nxtS_ret, nxtS_err, nxtS_brk, nxtS_cont, bs_ok, bs_err, oo_some, selS_t, selS_f, evS_pass, evS_expr, evS_set, evS_par, evS_ret, evS_retN, evS_brk, evS_cont, evS_ite, evS_jput, evS_raise, evS_try, tryK, ev_var, ev_cst, ev_bin, ev_neg, ev_not, ev_cmp, ev_chain, ev_and, ev_or, ev_ite, ev_tup, ev_lst, ev_idx, ev_slc, ev_call, ev_bi, ev_isi, evs_nil, evs_cons, evo_none, evo_some, andK_bt, andK_bf, orK_bt, orK_bf, iteK_bt, iteK_bf, rb_ok, rb_err, mb_ap, mp_ap, lift_ap, gv_z, gv_s, List.map_cons, List.map_nil, List.length_cons, List.length_nil, List.length_set, List.replicate, List.cons_append, List.nil_append, Nat.reduceAdd, Nat.reduceSub, List.set_cons_zero, List.set_cons_succ, List.getElem?_cons_succ, List.getElem?_cons_zero, Option.map_some, Option.bind_some, assignN, setAll2, setAll3, setAll_nil, bin_add, bin_sub, bin_mul, bin_fdiv, bin_mod, bin_pow, cmp_lt, cmp_le, cmp_gt, cmp_ge, cmp_eqi, cmp_nei, negD_int, tru_bl, bi_int, bi_bl, bi_abs, bi_gcd, bi_lenl, bi_lent, isInt_int, jix, idxT0, idxT1, idxL0, idxL1, decide_true, decide_false, Bool.not_true, Bool.not_false, handle, a1, a2, z, hex, xf1, Nat.reduceLT, if_true]
  rfl
theorem bin_subb {x y : Bool} : binD .sub (.bl x) (.bl y) = some (.int ((if x then 1 else 0) - (if y then 1 else 0))) := rfl
theorem sign_ok (K : HasC Γ) {x : D} (h1 : isN x = true) : runF Γ 2 Ex.sign_of [x] st = .ok (.int ((if decide (0 < (nOf x).1) then 1 else 0) - (if decide ((nOf x).1 < 0) then 1 else 0))) st := by
  have a1 := K.ok x (.str "value") st h1
  simp only [Ex.sign_of, runF_ap, runK_ret, runK_nx, runK_err, evSs_cs, evSs_nil, nxtS_nx, nxtS_ret, nxtS_err, nxtS_brk, nxtS_cont, bs_ok, bs_err, oo_some, selS_t, selS_f, evS_pass, evS_expr, evS_set, evS_par, evS_ret, evS_retN, evS_brk, evS_cont, evS_ite, evS_jput, evS_raise, evS_try, tryK, ev_var, ev_cst, ev_bin, ev_neg, ev_not, ev_cmp, ev_chain, ev_and, ev_or, ev_ite, ev_tup, ev_lst, ev_idx, ev_slc, ev_call, ev_bi, ev_isi, evs_nil, evs_cons, evo_none, evo_some, andK_bt, andK_bf, orK_bt, orK_bf, iteK_bt, iteK_bf, rb_ok, rb_err, mb_ap, mp_ap, lift_ap, gv_z, gv_s, List.map_cons, List.map_nil, List.length_cons, List.length_nil, List.length_set, List.replicate, List.cons_append, List.nil_append, Nat.reduceAdd, Nat.reduceSub, List.set_cons_zero, List.set_cons_succ, List.getElem?_cons_succ, List.getElem?_cons_zero, Option.map_some, Option.bind_some, assignN, setAll2, setAll3, setAll_nil, bin_add, bin_sub, bin_mul, bin_fdiv, bin_mod, bin_pow, cmp_lt, cmp_le, cmp_gt, cmp_ge, cmp_eqi, cmp_nei, negD_int, tru_bl, bi_int, bi_bl, bi_abs, bi_gcd, bi_lenl, bi_lent, isInt_int, jix, idxT0, idxT1, idxL0, idxL1, decide_true, decide_false, Bool.not_true, Bool.not_false, handle, a1, bin_subb, Nat.reduceLT, if_true]
theorem sign_no (K : HasC Γ) {x : D} (ha : ask x = true) (h1 : isN x = false) : runF Γ 2 Ex.sign_of [x] st = .err (badN (.str "value")) st := by
  have a1 := K.no x (.str "value") st ha h1
  simp only [Ex.sign_of, runF_ap, runK_ret, runK_nx, runK_err, evSs_cs, evSs_nil, nxtS_nx, nxtS_ret, nxtS_err, nxtS_brk, nxtS_cont, bs_ok, bs_err, oo_some, selS_t, selS_f, evS_pass, evS_expr, evS_set, evS_par, evS_ret, evS_retN, evS_brk, evS_cont, evS_ite, evS_jput, evS_raise, evS_try, tryK, ev_var, ev_cst, ev_bin, ev_neg, ev_not, ev_cmp, ev_chain, ev_and, ev_or, ev_ite, ev_tup, ev_lst, ev_idx, ev_slc, ev_call, ev_bi, ev_isi, evs_nil, evs_cons, evo_none, evo_some, andK_bt, andK_bf, orK_bt, orK_bf, iteK_bt, iteK_bf, rb_ok, rb_err, mb_ap, mp_ap, lift_ap, gv_z, gv_s, List.map_cons, List.map_nil, List.length_cons, List.length_nil, List.length_set, List.replicate, List.cons_append, List.nil_append, Nat.reduceAdd, Nat.reduceSub, List.set_cons_zero, List.set_cons_succ, List.getElem?_cons_succ, List.getElem?_cons_zero, Option.map_some, Option.bind_some, assignN, setAll2, setAll3, setAll_nil, bin_add, bin_sub, bin_mul, bin_fdiv, bin_mod, bin_pow, cmp_lt, cmp_le, cmp_gt, cmp_ge, cmp_eqi, cmp_nei, negD_int, tru_bl, bi_int, bi_bl, bi_abs, bi_gcd, bi_lenl, bi_lent, isInt_int, jix, idxT0, idxT1, idxL0, idxL1, decide_true, decide_false, Bool.not_true, Bool.not_false, handle, a1]
theorem number_ok (K : HasI Γ) (L : HasL Γ) {t u : Int} (hu : u ≠ 0) (hb : u.natAbs < 2 ^ k) (hk : k ≤ 8000) : runF Γ 2 Ex.number [.int t, .int u] st = .ok (dP (low t u)) st := by
  have a1 := K.int (.int t) st rfl
  have a2 := K.int (.int u) st rfl
  simp only [isI] at a1 a2
  have z : decide (u = 0) = false := decide_eq_false hu
  have e := L.ok t u k st hu hb hk
  simp only [Ex.number, runF_ap, runK_ret, runK_nx, runK_err, evSs_cs, evSs_nil, nxtS_nx, nxtS_ret, nxtS_err, nxtS_brk, nxtS_cont, bs_ok, bs_err, oo_some, selS_t, selS_f, evS_pass, evS_expr, evS_set, evS_par, evS_ret, evS_retN, evS_brk, evS_cont, evS_ite, evS_jput, evS_raise, evS_try, tryK, ev_var, ev_cst, ev_bin, ev_neg, ev_not, ev_cmp, ev_chain, ev_and, ev_or, ev_ite, ev_tup, ev_lst, ev_idx, ev_slc, ev_call, ev_bi, ev_isi, evs_nil, evs_cons, evo_none, evo_some, andK_bt, andK_bf, orK_bt, orK_bf, iteK_bt, iteK_bf, rb_ok, rb_err, mb_ap, mp_ap, lift_ap, gv_z, gv_s, List.map_cons, List.map_nil, List.length_cons, List.length_nil, List.length_set, List.replicate, List.cons_append, List.nil_append, Nat.reduceAdd, Nat.reduceSub, List.set_cons_zero, List.set_cons_succ, List.getElem?_cons_succ, List.getElem?_cons_zero, Option.map_some, Option.bind_some, assignN, setAll2, setAll3, setAll_nil, bin_add, bin_sub, bin_mul, bin_fdiv, bin_mod, bin_pow, cmp_lt, cmp_le, cmp_gt, cmp_ge, cmp_eqi, cmp_nei, negD_int, tru_bl, bi_int, bi_bl, bi_abs, bi_gcd, bi_lenl, bi_lent, isInt_int, jix, idxT0, idxT1, idxL0, idxL1, decide_true, decide_false, Bool.not_true, Bool.not_false, handle, a1, a2, z]
  rw [e]
  simp only [runF_ap, runK_ret, runK_nx, runK_err, evSs_cs, evSs_nil, nxtS_nx, nxtS_ret, nxtS_err, nxtS_brk, nxtS_cont, bs_ok, bs_err, oo_some, selS_t, selS_f, evS_pass, evS_expr, evS_set, evS_par, evS_ret, evS_retN, evS_brk, evS_cont, evS_ite, evS_jput, evS_raise, evS_try, tryK, ev_var, ev_cst, ev_bin, ev_neg, ev_not, ev_cmp, ev_chain, ev_and, ev_or, ev_ite, ev_tup, ev_lst, ev_idx, ev_slc, ev_call, ev_bi, ev_isi, evs_nil, evs_cons, evo_none, evo_some, andK_bt, andK_bf, orK_bt, orK_bf, iteK_bt, iteK_bf, rb_ok, rb_err, mb_ap, mp_ap, lift_ap, gv_z, gv_s, List.map_cons, List.map_nil, List.length_cons, List.length_nil, List.length_set, List.replicate, List.cons_append, List.nil_append, Nat.reduceAdd, Nat.reduceSub, List.set_cons_zero, List.set_cons_succ, List.getElem?_cons_succ, List.getElem?_cons_zero, Option.map_some, Option.bind_some, assignN, setAll2, setAll3, setAll_nil, bin_add, bin_sub, bin_mul, bin_fdiv, bin_mod, bin_pow, cmp_lt, cmp_le, cmp_gt, cmp_ge, cmp_eqi, cmp_nei, negD_int, tru_bl, bi_int, bi_bl, bi_abs, bi_gcd, bi_lenl, bi_lent, isInt_int, jix, idxT0, idxT1, idxL0, idxL1, decide_true, decide_false, Bool.not_true, Bool.not_false, handle]
theorem number_no1 (K : HasI Γ) (hex : Γ.ex "BadNumber" = some [("part" : Str)]) {x y : D} (hk : kn x = true) (h : isI x = false) : runF Γ 2 Ex.number [x, y] st = .err (badN (.str "top")) st := by
  have a1 := K.int x st hk
  rw [h] at a1
  simp only [Ex.number, runF_ap, runK_ret, runK_nx, runK_err, evSs_cs, evSs_nil, nxtS_nx, nxtS_ret, nxtS_err, nxtS_brk, nxtS_cont, bs_ok, bs_err, oo_some, selS_t, selS_f, evS_pass, evS_expr, evS_set, evS_par, evS_ret, evS_retN, evS_brk, evS_cont, evS_ite, evS_jput, evS_raise, evS_try, tryK, ev_var, ev_cst, ev_bin, ev_neg, ev_not, ev_cmp, ev_chain, ev_and, ev_or, ev_ite, ev_tup, ev_lst, ev_idx, ev_slc, ev_call, ev_bi, ev_isi, evs_nil, evs_cons, evo_none, evo_some, andK_bt, andK_bf, orK_bt, orK_bf, iteK_bt, iteK_bf, rb_ok, rb_err, mb_ap, mp_ap, lift_ap, gv_z, gv_s, List.map_cons, List.map_nil, List.length_cons, List.length_nil, List.length_set, List.replicate, List.cons_append, List.nil_append, Nat.reduceAdd, Nat.reduceSub, List.set_cons_zero, List.set_cons_succ, List.getElem?_cons_succ, List.getElem?_cons_zero, Option.map_some, Option.bind_some, assignN, setAll2, setAll3, setAll_nil, bin_add, bin_sub, bin_mul, bin_fdiv, bin_mod, bin_pow, cmp_lt, cmp_le, cmp_gt, cmp_ge, cmp_eqi, cmp_nei, negD_int, tru_bl, bi_int, bi_bl, bi_abs, bi_gcd, bi_lenl, bi_lent, isInt_int, jix, idxT0, idxT1, idxL0, idxL1, decide_true, decide_false, Bool.not_true, Bool.not_false, handle, a1, hex, xf1]
  rfl
theorem number_no2 (K : HasI Γ) (hex : Γ.ex "BadNumber" = some [("part" : Str)]) {t : Int} {y : D} (hk : kn y = true) (h : isI y = false) : runF Γ 2 Ex.number [.int t, y] st = .err (badN (.str "under")) st := by
  have a1 := K.int (.int t) st rfl
  have a2 := K.int y st hk
  rw [h] at a2
  simp only [isI] at a1
  simp only [Ex.number, runF_ap, runK_ret, runK_nx, runK_err, evSs_cs, evSs_nil, nxtS_nx, nxtS_ret, nxtS_err, nxtS_brk, nxtS_cont, bs_ok, bs_err, oo_some, selS_t, selS_f, evS_pass, evS_expr, evS_set, evS_par, evS_ret, evS_retN, evS_brk, evS_cont, evS_ite, evS_jput, evS_raise, evS_try, tryK, ev_var, ev_cst, ev_bin, ev_neg, ev_not, ev_cmp, ev_chain, ev_and, ev_or, ev_ite, ev_tup, ev_lst, ev_idx, ev_slc, ev_call, ev_bi, ev_isi, evs_nil, evs_cons, evo_none, evo_some, andK_bt, andK_bf, orK_bt, orK_bf, iteK_bt, iteK_bf, rb_ok, rb_err, mb_ap, mp_ap, lift_ap, gv_z, gv_s, List.map_cons, List.map_nil, List.length_cons, List.length_nil, List.length_set, List.replicate, List.cons_append, List.nil_append, Nat.reduceAdd, Nat.reduceSub, List.set_cons_zero, List.set_cons_succ, List.getElem?_cons_succ, List.getElem?_cons_zero, Option.map_some, Option.bind_some, assignN, setAll2, setAll3, setAll_nil, bin_add, bin_sub, bin_mul, bin_fdiv, bin_mod, bin_pow, cmp_lt, cmp_le, cmp_gt, cmp_ge, cmp_eqi, cmp_nei, negD_int, tru_bl, bi_int, bi_bl, bi_abs, bi_gcd, bi_lenl, bi_lent, isInt_int, jix, idxT0, idxT1, idxL0, idxL1, decide_true, decide_false, Bool.not_true, Bool.not_false, handle, a1, a2, hex, xf1]
  rfl
theorem number_no3 (K : HasI Γ) (hex : Γ.ex "BadNumber" = some [("part" : Str)]) {t : Int} : runF Γ 2 Ex.number [.int t, .int 0] st = .err (badN (.str "under")) st := by
  have a1 := K.int (.int t) st rfl
  have a2 := K.int (.int 0) st rfl
  have z : decide ((0 : Int) = 0) = true := rfl
  simp only [isI] at a1 a2
  simp only [Ex.number, runF_ap, runK_ret, runK_nx, runK_err, evSs_cs, evSs_nil, nxtS_nx, nxtS_ret, nxtS_err, nxtS_brk, nxtS_cont, bs_ok, bs_err, oo_some, selS_t, selS_f, evS_pass, evS_expr, evS_set, evS_par, evS_ret, evS_retN, evS_brk, evS_cont, evS_ite, evS_jput, evS_raise, evS_try, tryK, ev_var, ev_cst, ev_bin, ev_neg, ev_not, ev_cmp, ev_chain, ev_and, ev_or, ev_ite, ev_tup, ev_lst, ev_idx, ev_slc, ev_call, ev_bi, ev_isi, evs_nil, evs_cons, evo_none, evo_some, andK_bt, andK_bf, orK_bt, orK_bf, iteK_bt, iteK_bf, rb_ok, rb_err, mb_ap, mp_ap, lift_ap, gv_z, gv_s, List.map_cons, List.map_nil, List.length_cons, List.length_nil, List.length_set, List.replicate, List.cons_append, List.nil_append, Nat.reduceAdd, Nat.reduceSub, List.set_cons_zero, List.set_cons_succ, List.getElem?_cons_succ, List.getElem?_cons_zero, Option.map_some, Option.bind_some, assignN, setAll2, setAll3, setAll_nil, bin_add, bin_sub, bin_mul, bin_fdiv, bin_mod, bin_pow, cmp_lt, cmp_le, cmp_gt, cmp_ge, cmp_eqi, cmp_nei, negD_int, tru_bl, bi_int, bi_bl, bi_abs, bi_gcd, bi_lenl, bi_lent, isInt_int, jix, idxT0, idxT1, idxL0, idxL1, decide_true, decide_false, Bool.not_true, Bool.not_false, handle, a1, a2, z, hex, xf1]
  rfl
end
end DE
/-! The plain side: sizes of numbers, told by instances; data that compare and show -/
namespace DE
open PySem
/-- an integer of at most k bits -/
class NB (x : Int) (k : outParam Nat) : Prop where
  h : x.natAbs < 2 ^ k
theorem pow2_le {a b : Nat} (h : a ≤ b) : 2 ^ a ≤ 2 ^ b := Nat.pow_le_pow_right (by omega) h
def nmax (a b : Nat) : Nat := bif Nat.ble a b then b else a
theorem nmax_l {a b : Nat} : a ≤ nmax a b := by
  unfold nmax
  cases h : Nat.ble a b with
  | true => exact Nat.le_of_ble_eq_true h
  | false => exact Nat.le_refl _
theorem nmax_r {a b : Nat} : b ≤ nmax a b := by
  unfold nmax
  cases h : Nat.ble a b with
  | true => exact Nat.le_refl _
  | false =>
    have : ¬ (a ≤ b) := fun q => by rw [Nat.ble_eq_true_of_le q] at h; cases h
    show b ≤ a
    omega
theorem NB.le {x : Int} {k l : Nat} (h : NB x k) (e : k ≤ l) : x.natAbs < 2 ^ l := Nat.lt_of_lt_of_le h.h (pow2_le e)
instance bi_mul {x y : Int} {k l : Nat} [a : NB x k] [b : NB y l] : NB (x * y) (k + l) := ⟨by
  rw [Int.natAbs_mul, Nat.pow_add]
  exact Nat.mul_lt_mul'' a.h b.h⟩
instance bi_addI {x y : Int} {k l : Nat} [a : NB x k] [b : NB y l] : NB (x + y) (nmax k l + 1) := ⟨by
  have h1 := a.le nmax_l (l := nmax k l)
  have h2 := b.le nmax_r (l := nmax k l)
  rw [Nat.pow_succ]
  omega⟩
instance bi_subI {x y : Int} {k l : Nat} [a : NB x k] [b : NB y l] : NB (x - y) (nmax k l + 1) := ⟨by
  have h1 := a.le nmax_l (l := nmax k l)
  have h2 := b.le nmax_r (l := nmax k l)
  rw [Nat.pow_succ]
  omega⟩
instance bi_negI {x : Int} {k : Nat} [a : NB x k] : NB (-x) k := ⟨by rw [Int.natAbs_neg]; exact a.h⟩
instance bi_lit {n : Nat} [NeZero n] : NB (OfNat.ofNat n : Int) (n.log2 + 1) := ⟨by
  show n < _
  exact Nat.lt_log2_self⟩
instance bi_z : NB (0 : Int) 0 := ⟨by decide⟩
instance bi_one : NB (1 : Int) 1 := ⟨by decide⟩
theorem mulOk_i {x y : Int} {k l : Nat} [a : NB x k] [b : NB y l] (h : Nat.ble (k + l) 999990 = true) : mulOk x y = true := by
  have h := Nat.le_of_ble_eq_true h
  exact mulOk_b (a := k + 1) (b := l + 1) (a.le (by omega)) (b.le (by omega)) (by omega) (by omega) (by omega)
/-- a fraction in lowest terms, its top of at most k bits, its under of at most l -/
class FB (p : Int × Int) (k l : outParam Nat) : Prop where
  fr : Fr p
  h1 : p.1.natAbs < 2 ^ k
  h2 : p.2.natAbs < 2 ^ l
instance fb_1 {p : Int × Int} {k l : Nat} [a : FB p k l] : NB p.1 k := ⟨a.h1⟩
instance fb_2 {p : Int × Int} {k l : Nat} [a : FB p k l] : NB p.2 l := ⟨a.h2⟩
theorem FB.ne {p : Int × Int} {k l : Nat} (a : FB p k l) : p.2 ≠ 0 := by have := a.fr.1; omega
theorem FB.ne' {p : Int × Int} {k l : Nat} [a : FB p k l] : p.2 ≠ 0 := by have := a.fr.1; omega
theorem FB.pos {p : Int × Int} {k l : Nat} (a : FB p k l) : 0 < p.2 := by have := a.fr.1; omega
theorem low_FB {t u : Int} {k l : Nat} [a : NB t k] [b : NB u l] (h : u ≠ 0) : FB (low t u) k l := by
  obtain ⟨h1, h2⟩ := low_bd (t := t) h
  exact ⟨low_fr h, Nat.lt_of_le_of_lt h1 a.h, Nat.lt_of_le_of_lt h2 b.h⟩
section
variable {a b : Int × Int} {k l m n : Nat}
instance fb_add [x : FB a k l] [y : FB b m n] : FB (addF a b) (nmax (k + n) (m + l) + 1) (l + n) := low_FB (Int.mul_ne_zero x.ne y.ne)
instance fb_sub [x : FB a k l] [y : FB b m n] : FB (subF a b) (nmax (k + n) (m + l) + 1) (l + n) := low_FB (Int.mul_ne_zero x.ne y.ne)
instance fb_mul [x : FB a k l] [y : FB b m n] : FB (mulF a b) (k + m) (l + n) := low_FB (Int.mul_ne_zero x.ne y.ne)
def negF (a : Int × Int) : Int × Int := (-a.1, a.2)
instance fb_neg [x : FB a k l] : FB (negF a) k l := ⟨by
  refine ⟨x.fr.1, ?_⟩
  show Nat.gcd (-a.1).natAbs a.2.natAbs = 1
  rw [Int.natAbs_neg]
  exact x.fr.2, by show (-a.1).natAbs < _; rw [Int.natAbs_neg]; exact x.h1, x.h2⟩
theorem FB.up [x : FB a k l] (h1 : k ≤ m) (h2 : l ≤ n) : FB a m n := ⟨x.fr, Nat.lt_of_lt_of_le x.h1 (pow2_le h1), Nat.lt_of_lt_of_le x.h2 (pow2_le h2)⟩
theorem FB.isN [x : FB a k l] : isN (dP a) = true := isP_iff.mpr x.fr
end
/-! ### data that compare -/
theorem strOk_app {x y : Str} : PyData.strOk (x ++ y) = (PyData.strOk x && PyData.strOk y) := by
  show Array.all (x.cps ++ y.cps) _ = _
  rw [Array.all_append]
  rfl
theorem char_lt (c : Char) : c.toNat < 0x110000 := by
  rcases c.valid with h | ⟨_, h⟩
  · exact Nat.lt_trans h (by decide)
  · exact h
theorem strOk_of (s : String) : PyData.strOk (Str.ofString s) = true := by
  unfold PyData.strOk
  rw [← Array.all_toList, List.all_eq_true]
  intro c hc
  rw [PyProof.Rows.signs_ofString, List.mem_map] at hc
  obtain ⟨d, _, rfl⟩ := hc
  exact decide_eq_true (char_lt d)
theorem strOk_if {b : Bool} {s t : String} : PyData.strOk (if b = true then s else t : String) = true := by split <;> exact strOk_of _
theorem textFrom_ok : ∀ (ts : List Str) (k : Nat) (acc : Str), PyData.strOk acc = true → (∀ t ∈ ts, PyData.strOk t = true) → PyData.strOk (textFrom k acc ts) = true
  | [], _, _, h, _ => h
  | t :: r, k, acc, h, g => by
    refine textFrom_ok r (k + 1) _ ?_ fun u hu => g u (List.mem_cons_of_mem _ hu)
    rw [strOk_app, strOk_app, h, g t List.mem_cons_self]
    split <;> first | rfl | (rw [strOk_of]; rfl)
theorem join_ok {sep : Str} (hs : PyData.strOk sep = true) : ∀ (ts : List Str), (∀ t ∈ ts, PyData.strOk t = true) → PyData.strOk (Str.join sep ts) = true
  | [], _ => by show Array.all #[] _ = true; simp
  | [x], g => g x List.mem_cons_self
  | x :: y :: r, g => by
    show PyData.strOk (x ++ sep ++ Str.join sep (y :: r)) = true
    rw [strOk_app, strOk_app, g x List.mem_cons_self, hs, join_ok hs (y :: r) fun u hu => g u (List.mem_cons_of_mem _ hu)]
    rfl
theorem join_len {sep : Str} : ∀ (ts : List Str), (Str.join sep ts).length ≤ (ts.map fun t => t.length + sep.length).sum
  | [] => by simp [Str.join]; rfl
  | [x] => by simp [Str.join]
  | x :: y :: r => by
    have ih := join_len (sep := sep) (y :: r)
    show (x ++ sep ++ Str.join sep (y :: r)).length ≤ _
    rw [strLen_append, strLen_append, List.map_cons, List.sum_cons]
    omega
/-- data of so many rows one in another, its integers of so many bits, its text so long -/
class Sh (d : D) (n b l : outParam Nat) : Prop where
  ex : ∃ p, toPy d = some p ∧ p.canLay0 = true ∧ p.depth ≤ n ∧ (b ≤ 1900 → p.showable = true) ∧ p.shown.length ≤ l ∧ PyData.strOk p.shown = true
class Shs (ds : List D) (n b l : outParam Nat) : Prop where
  ex : ∃ ps, toPys ds = some ps ∧ PyData.canLayAll0 ps = true ∧ PyData.depthAll ps ≤ n ∧ (b ≤ 1900 → PyData.showableAll ps = true) ∧ ((PyData.shownAll ps).map fun t => t.length + 2).sum ≤ l ∧ (∀ t ∈ PyData.shownAll ps, PyData.strOk t = true)
instance sh_non : Sh .non 0 0 4 := ⟨.none, by simp only [toPy], by simp [PyData.canLay0], by simp [PyData.depth], fun _ => by simp [PyData.showable], by simp only [PyData.shown]; decide, by simp only [PyData.shown]; exact strOk_of _⟩
instance sh_bl {b : Bool} : Sh (.bl b) 0 0 5 := ⟨.bool b, by simp only [toPy], by simp [PyData.canLay0], by simp [PyData.depth], fun _ => by simp [PyData.showable], by simp only [PyData.shown]; cases b <;> decide, by simp only [PyData.shown]; cases b <;> exact strOk_of _⟩
theorem log2_of {n k : Nat} (h : n < 2 ^ k) : n.log2 < k + 1 := log2_lt (by omega) (Nat.lt_trans h (Nat.pow_lt_pow_right (by omega) (by omega)))
theorem len_of (s : String) : (Str.ofString s).length = s.length := by
  show (Str.ofString s).cps.size = _
  rw [← Array.length_toList, PyProof.Rows.signs_ofString, List.length_map]
  rfl
instance sh_int {i : Int} {k : Nat} [a : NB i k] : Sh (.int i) 0 k (k + 2) := ⟨.int i, by simp only [toPy], by simp [PyData.canLay0], by simp [PyData.depth], fun h => by
  have := log2_of a.h
  simp only [PyData.showable, decide_eq_true_eq]
  omega, by
  simp only [PyData.shown]
  rw [len_of]
  exact int_text_length_le (by omega) (log2_of a.h), by
  simp only [PyData.shown]
  exact strOk_of _⟩
instance shs_nil : Shs [] 0 0 0 := ⟨[], by simp only [toPys], by simp [PyData.canLayAll0], by simp [PyData.depthAll], fun _ => by simp [PyData.showableAll], by simp [PyData.shownAll], by simp [PyData.shownAll]⟩
instance shs_cons {d : D} {ds : List D} {n b l n2 b2 l2 : Nat} [x : Sh d n b l] [y : Shs ds n2 b2 l2] : Shs (d :: ds) (nmax n n2) (nmax b b2) (l + l2 + 2) := by
  obtain ⟨p, e1, e2, e3, e4, e5, e6⟩ := x.ex
  obtain ⟨ps, f1, f2, f3, f4, f5, f6⟩ := y.ex
  refine ⟨p :: ps, by simp [toPys, e1, f1], by simp [PyData.canLayAll0, e2, f2], ?_, fun h => ?_, ?_, ?_⟩
  · simp only [PyData.depthAll]
    have := @nmax_l n n2
    have := @nmax_r n n2
    omega
  · have := @nmax_l b b2
    have := @nmax_r b b2
    simp [PyData.showableAll, e4 (by omega), f4 (by omega)]
  · simp only [PyData.shownAll, List.map_cons, List.sum_cons]
    omega
  · simp only [PyData.shownAll]
    intro t ht
    rcases List.mem_cons.mp ht with rfl | h
    · exact e6
    · exact f6 t h
theorem listText_len (ts : List Str) : (listText ts).length ≤ (ts.map fun t => t.length + 2).sum + 2 := by
  unfold listText
  rw [strLen_append]
  cases ts with
  | nil => decide
  | cons t r =>
    have h := textFrom_length_pos r 1 (("[" : Str) ++ (if 0 > 0 then ", " else "" : String) ++ t) (by omega)
    have e : (("[" : Str) ++ (if 0 > 0 then ", " else "" : String) ++ t).length = 1 + t.length := by
      rw [strLen_append, strLen_append]; rfl
    show (textFrom 1 (("[" : Str) ++ (if 0 > 0 then ", " else "" : String) ++ t) r).length + _ ≤ _
    rw [h, e, List.map_cons, List.sum_cons]
    have z : piled r = (r.map fun t => t.length + 2).sum := rfl
    rw [z]
    have : (Str.ofString "]").length = 1 := rfl
    show 1 + t.length + _ + (Str.ofString "]").length ≤ _
    omega
theorem tupleText_len (ts : List Str) : (tupleText ts).length ≤ (ts.map fun t => t.length + 2).sum + 3 := by
  unfold tupleText
  rw [strLen_append, strLen_append]
  have h := join_len (sep := ", ") ts
  have e1 : (", " : Str).length = 2 := rfl
  rw [e1] at h
  have e2 : ("(" : Str).length = 1 := rfl
  have e3 : (Str.ofString (if ts.length == 1 then ",)" else ")")).length ≤ 2 := by split <;> decide
  omega
instance sh_lst {ds : List D} {n b l : Nat} [y : Shs ds n b l] : Sh (.lst ds) (n + 1) b (l + 2) := by
  obtain ⟨ps, f1, f2, f3, f4, f5, f6⟩ := y.ex
  refine ⟨.list ps, by simp [toPy, f1], by simp [PyData.canLay0, f2], ?_, fun h => by simp [PyData.showable, f4 h], ?_, ?_⟩
  · simp only [PyData.depth]; omega
  · simp only [PyData.shown]
    have := listText_len (PyData.shownAll ps)
    omega
  · simp only [PyData.shown]
    unfold listText
    rw [strOk_app, textFrom_ok _ _ _ (strOk_of _) f6]
    exact strOk_of _
instance sh_tup {ds : List D} {n b l : Nat} [y : Shs ds n b l] : Sh (.tup ds) (n + 1) b (l + 3) := by
  obtain ⟨ps, f1, f2, f3, f4, f5, f6⟩ := y.ex
  refine ⟨.tuple ps, by simp [toPy, f1], by simp [PyData.canLay0, f2], ?_, fun h => by simp [PyData.showable, f4 h], ?_, ?_⟩
  · simp only [PyData.depth]; omega
  · simp only [PyData.shown]
    have := tupleText_len (PyData.shownAll ps)
    omega
  · simp only [PyData.shown]
    unfold tupleText
    rw [strOk_app, strOk_app, join_ok (strOk_of _) _ f6]
    have e : PyData.strOk ("(" : Str) = true := strOk_of _
    rw [e]
    exact strOk_if
/-- what is shown of data -/
def shD (d : D) : Str := match toPy d with
  | some p => p.shown
  | none => ""
section
variable {d : D} {n b l : Nat}
theorem eqD_self [x : Sh d n b l] (h : Nat.ble n 64 = true) : eqD d d = some true := by
  obtain ⟨p, e1, e2, e3, e4, e5, e6⟩ := x.ex
  have h := Nat.le_of_ble_eq_true h
  have s : SeqAt.shaped p = true := by unfold SeqAt.shaped; rw [e2, decide_eq_true (show p.depth ≤ 64 by omega)]; rfl
  rw [eqD_of e1 e1 s s, SeqAt.eqv_refl p e2]
theorem ne_self [x : Sh d n b l] (h : Nat.ble n 64 = true) : cmpD .ne d d = some false := by rw [cmp_ne, eqD_self h]; rfl
theorem eq_self' [x : Sh d n b l] (h : Nat.ble n 64 = true) : cmpD .eq d d = some true := by rw [cmp_eq isDT_self, eqD_self h]
theorem shD_ok [x : Sh d n b l] : PyData.strOk (shD d) = true := by
  obtain ⟨p, e1, e2, e3, e4, e5, e6⟩ := x.ex
  unfold shD
  rw [e1]
  exact e6
theorem ne_sh [x : Sh d n b l] : cmpD .ne (.str (shD d)) (.str (shD d)) = some false := by
  rw [cmp_ne, eqD_str shD_ok shD_ok]; simp
theorem eq_sh [x : Sh d n b l] : cmpD .eq (.str (shD d)) (.str (shD d)) = some true := by
  rw [cmp_eq, eqD_str shD_ok shD_ok]; simp
theorem reprC_ok [x : Sh d n b l] (h1 : Nat.ble n 60 = true) (h2 : Nat.ble b 1900 = true) (h3 : Nat.ble l 1000000 = true) : reprC d = some (.str (shD d)) := by
  obtain ⟨p, e1, e2, e3, e4, e5, e6⟩ := x.ex
  have h1 := Nat.le_of_ble_eq_true h1
  have h2 := Nat.le_of_ble_eq_true h2
  have h3 := Nat.le_of_ble_eq_true h3
  unfold reprC shD
  rw [e1]
  have s : SeqAt.shaped p = true := by unfold SeqAt.shaped; rw [e2, decide_eq_true (show p.depth ≤ 64 by omega)]; rfl
  show (if _ then _ else _) = _
  rw [e4 h2, s, decide_eq_true (show p.depth ≤ 60 by omega), decide_eq_true (show p.shown.length ≤ 1000000 by omega)]
  rfl
end
section
variable {xs : List D} {n b l : Nat}
theorem repr_tup [x : Sh (.tup xs) n b l] (h1 : Nat.ble n 60 = true) (h2 : Nat.ble b 1900 = true) (h3 : Nat.ble l 1000000 = true) : biD .repr [.tup xs] = some (.str (shD (.tup xs))) := reprC_ok h1 h2 h3
theorem repr_lst [x : Sh (.lst xs) n b l] (h1 : Nat.ble n 60 = true) (h2 : Nat.ble b 1900 = true) (h3 : Nat.ble l 1000000 = true) : biD .repr [.lst xs] = some (.str (shD (.lst xs))) := reprC_ok h1 h2 h3
theorem repr_bl {b : Bool} : biD .repr [.bl b] = some (.str (shD (.bl b))) := by
  unfold shD
  simp only [biD, toPy, PyData.shown]
theorem repr_int {i : Int} [x : NB i n] (h : Nat.ble n 1900 = true) : biD .repr [.int i] = some (.str (shD (.int i))) := by
  have h := Nat.le_of_ble_eq_true h
  have := log2_of x.h
  unfold shD
  simp only [biD, toPy, PyData.shown]
  rw [decide_eq_true (by omega)]
  rfl
end
example {p q : Int × Int} [FB p 100 100] [FB q 60 20] : cmpD .ne (.tup [dP (addF p q), dP q]) (.tup [dP (addF p q), dP q]) = some false := by
  simp (decide := true) only [ne_self]
example {p q : Int × Int} [FB p 100 100] [FB q 60 20] : biD .repr [.tup [dP (addF p q), dP q]] = some (.str (shD (.tup [dP (addF p q), dP q]))) := by
  simp (decide := true) only [repr_tup]
end DE
/-! The plain side: comprehensions, loops -/
namespace DE
open PySem
section
variable {Γ : Gam} {ρ : Env} {st : S}
theorem ev_comp' {elt : C} {tg : Tg} {k : IK} {its ifs : List C} {vs : List Nat} : ev Γ (.comp elt tg k its ifs vs) ρ st = Res.bind (Res.bind (evs Γ its ρ st) fun ds => lift (itemsD k ds)) fun items => M.bind (lift (few items)) fun items => M.bind (compL (fun x => noErr (compT tg vs ρ (evt Γ ifs) (ev Γ elt) x)) items) fun ys => M.pure (.lst ys) := by simp only [ev] <;> rfl
theorem assignTT {ts : List Tg} {xs : List D} : assign (.tp ts) (.tup xs) ρ = assigns ts xs ρ := by simp only [assign]
theorem assignTL {ts : List Tg} {xs : List D} : assign (.tp ts) (.lst xs) ρ = assigns ts xs ρ := by simp only [assign]
theorem assigns_nil : assigns [] [] ρ = some ρ := by simp only [assigns]
theorem assigns_cons {t : Tg} {ts : List Tg} {d : D} {ds : List D} : assigns (t :: ts) (d :: ds) ρ = (assign t d ρ).bind fun ρ' => assigns ts ds ρ' := by simp only [assigns]
theorem isN_bb' {a b : Bool} : cmpD .isN (.bl a) (.bl b) = some (decide (a = b)) := rfl
theorem notN_bb {a b : Bool} : cmpD .notN (.bl a) (.bl b) = some (!decide (a = b)) := rfl
theorem notN_non : cmpD .notN .non .non = some false := rfl
theorem bi_lst_t {xs : List D} : biD .list [.tup xs] = some (.lst xs) := rfl
theorem bi_lst_l {xs : List D} : biD .list [.lst xs] = some (.lst xs) := rfl
theorem bi_tup_l {xs : List D} : biD .tuple [.lst xs] = some (.tup xs) := rfl
theorem bi_tup_t {xs : List D} : biD .tuple [.tup xs] = some (.tup xs) := rfl
def noErrR {α : Type} : Res α → Res α
  | .err _ _ => .stuck
  | .ok a st => .ok a st
  | .stuck => .stuck
theorem noErr_ap {α : Type} {m : M α} : noErr m st = noErrR (m st) := by
  unfold noErr noErrR
  cases m st <;> rfl
theorem noErrR_ok {α : Type} {a : α} : noErrR (.ok a st) = .ok a st := rfl
theorem compL_nil {f : D → M (Option D)} : compL f [] st = .ok [] st := rfl
theorem compL_cons {f : D → M (Option D)} {x : D} {r : List D} : compL f (x :: r) st = Res.bind (f x st) fun o => M.bind (compL f r) fun ys => M.pure (consO o ys) := rfl
theorem consO_s {y : D} {ys : List D} : consO (some y) ys = y :: ys := rfl
theorem consO_n {ys : List D} : consO none ys = ys := rfl
def selT (fe : Env → M D) (ρ : Env) (ok : Bool) : M (Option D) := match ok with
  | true => M.bind (fe ρ) fun y => M.pure (some y)
  | false => M.pure none
theorem selT_t {fe : Env → M D} : selT fe ρ true st = Res.bind (fe ρ st) fun y => M.pure (some y) := rfl
theorem selT_f {fe : Env → M D} : selT fe ρ false st = .ok none st := rfl
theorem compT_ap {tg : Tg} {vs : List Nat} {ft : Env → M Bool} {fe : Env → M D} {x : D} : compT tg vs ρ ft fe x st = Res.bind (lift (assign tg x (wipeE ρ vs)) st) fun ρ2 => M.bind (ft ρ2) (selT fe ρ2) := by
  unfold compT
  first
    | rfl
    | (show Res.bind _ _ = _
       congr 1
       done)
    | (show Res.bind _ _ = _
       congr 1
       funext ρ2
       congr 1
       funext ok
       cases ok <;> rfl)
theorem evt_nil : evt Γ [] ρ st = .ok true st := by simp only [evt] <;> rfl
def selE (m : M Bool) (x : D) : M Bool := fun st => match truD x with
  | some true => m st
  | some false => .ok false st
  | none => .stuck
theorem evt_cons {e : C} {es : List C} : evt Γ (e :: es) ρ st = Res.bind (ev Γ e ρ st) (selE (evt Γ es ρ)) := by
  simp only [evt, M.bind]
  cases ev Γ e ρ st with
  | ok x s1 =>
    simp only [Res.bind, selE]
    cases truD x with
    | none => rfl
    | some k => cases k <;> rfl
  | err _ _ => rfl
  | stuck => rfl
theorem selE_t {m : M Bool} : selE m (.bl true) st = m st := rfl
theorem selE_f {m : M Bool} : selE m (.bl false) st = .ok false st := rfl
theorem wipeE_nil : wipeE ρ [] = ρ := rfl
theorem wipeE_cons {v : Nat} {vs : List Nat} : wipeE ρ (v :: vs) = (wipeE ρ vs).set v .non := rfl
theorem few_ok {xs : List D} (h : Nat.ble xs.length 1000000 = true) : few xs = some xs := by
  unfold few
  rw [decide_eq_true (Nat.le_of_ble_eq_true h)]
  rfl
theorem it_t {xs : List D} : itemsD .val [.tup xs] = some xs := rfl
theorem it_l {xs : List D} : itemsD .val [.lst xs] = some xs := rfl
theorem it_e {xs : List D} : itemsD .enum [.lst xs] = some (enumL 0 xs) := rfl
theorem it_z {xs ys : List D} : itemsD .zip [.lst xs, .lst ys] = some (zipL xs ys) := rfl
theorem it_r {xs : List D} : itemsD .rev [.lst xs] = some xs.reverse := rfl
theorem it_n {n : Int} (h0 : 0 ≤ n) (h : n < 2 ^ 62) : itemsD .rng [.int n] = some (((List.range n.toNat).map fun k : Nat => ((k : Nat) : Int)).map .int) := by
  have : rngOk n = true := by unfold rngOk; simp; omega
  simp only [itemsD, this, if_true, rngL, List.map_map]
  congr 2
  funext k
  simp
theorem it_mn {m n : Int} (h0 : -(2 ^ 62) ≤ m) (h1 : m < 2 ^ 62) (h2 : -(2 ^ 62) ≤ n) (h : n < 2 ^ 62) : itemsD .rng [.int m, .int n] = some (((List.range (n - m).toNat).map fun k : Nat => m + ((k : Nat) : Int)).map .int) := by
  have a1 : rngOk n = true := by unfold rngOk; simp; omega
  have a2 : rngOk m = true := by unfold rngOk; simp; omega
  simp only [itemsD, a1, a2, Bool.and_self, if_true, rngL, List.map_map]
  rfl
/-- a comprehension whose turns leave the list as it is -/
theorem compL_map {f : D → M (Option D)} {α : Type} {g : α → D} {h : α → D} : ∀ {xs : List α}, (∀ x ∈ xs, f (g x) st = .ok (some (h x)) st) → compL f (xs.map g) st = .ok (xs.map h) st
  | [], _ => rfl
  | x :: r, k => by
    have ih := compL_map (f := f) (g := g) (h := h) (xs := r) fun y hy => k y (List.mem_cons_of_mem _ hy)
    rw [List.map_cons, compL_cons, k x List.mem_cons_self]
    simp only [Res.bind, M.bind, ih, M.pure, consO, List.map_cons]
theorem compL_map' {f : D → M (Option D)} {h : D → D} {xs : List D} (k : ∀ x ∈ xs, f x st = .ok (some (h x)) st) : compL f xs st = .ok (xs.map h) st := by
  have z := @compL_map st f D (fun x => x) h xs k
  rwa [List.map_id'] at z
theorem allBl_map {α : Type} {f : α → Bool} : ∀ {xs : List α}, allBl (xs.map fun x => .bl (f x)) = some (xs.map f)
  | [] => rfl
  | x :: r => by simp [allBl, allBl_map (f := f) (xs := r)]
theorem bi_all {α : Type} {f : α → Bool} {xs : List α} : biD .all [.lst (xs.map fun x => .bl (f x))] = some (.bl (xs.all f)) := by
  simp only [biD, allBl_map, Option.map_some, List.all_map]
  rfl
theorem bi_any {α : Type} {f : α → Bool} {xs : List α} : biD .any [.lst (xs.map fun x => .bl (f x))] = some (.bl (xs.any f)) := by
  simp only [biD, allBl_map, Option.map_some, List.any_map]
  rfl
/-- .. with a test -/
theorem compL_filter {f : D → M (Option D)} {α : Type} {g : α → D} {h : α → Option D} : ∀ {xs : List α}, (∀ x ∈ xs, f (g x) st = .ok (h x) st) → compL f (xs.map g) st = .ok (xs.filterMap h) st
  | [], _ => rfl
  | x :: r, k => by
    have ih := compL_filter (f := f) (g := g) (h := h) (xs := r) fun y hy => k y (List.mem_cons_of_mem _ hy)
    rw [List.map_cons, compL_cons, k x List.mem_cons_self]
    simp only [Res.bind, M.bind, ih, M.pure, List.filterMap_cons]
    cases h x <;> rfl
/-- .. that draws: each turn keeps I and gives one of P -/
theorem compL_draw {f : D → M (Option D)} {I : Nat → S → Prop} {P : D → Prop} {c : Nat} : ∀ {xs : List D} {n : Nat} {st : S}, I n st → (∀ x ∈ xs, ∀ m s, n ≤ m → m ≤ n + c * xs.length → I m s → ∃ d s', f x s = .ok (some d) s' ∧ P d ∧ I (m + c) s') → ∃ ds s', compL f xs st = .ok ds s' ∧ ds.length = xs.length ∧ (∀ d ∈ ds, P d) ∧ I (n + c * xs.length) s'
  | [], n, st, h, _ => ⟨[], st, rfl, rfl, (fun _ h => nomatch h), by simpa using h⟩
  | x :: r, n, st, h, k => by
    have hl : c * (x :: r).length = c * r.length + c := by rw [List.length_cons, Nat.mul_succ]
    obtain ⟨d, s1, e1, p1, i1⟩ := k x List.mem_cons_self n st (Nat.le_refl _) (by omega) h
    obtain ⟨ds, s2, e2, l2, p2, i2⟩ := compL_draw (f := f) (I := I) (P := P) (c := c) (xs := r) (n := n + c) i1 fun y hy m s h1 h2 hI => k y (List.mem_cons_of_mem _ hy) m s (by omega) (by omega) hI
    refine ⟨d :: ds, s2, ?_, by simp [l2], fun e he => ?_, ?_⟩
    · rw [compL_cons, e1]
      simp only [Res.bind, M.bind, e2, M.pure, consO]
    · rcases List.mem_cons.mp he with rfl | h
      · exact p1
      · exact p2 e h
    · rw [hl, show n + (c * r.length + c) = n + c + c * r.length by omega]
      exact i2
def forK (step : D → Env → S → RS) (r : List D) : RS → RS
  | .nx ρ st => forL step r ρ st
  | .cont ρ st => forL step r ρ st
  | .brk ρ st => .nx ρ st
  | .ret d st => .ret d st
  | .err e ρ st => .err e ρ st
  | .stuck => .stuck
theorem forL_nil {step : D → Env → S → RS} : forL step [] ρ st = .nx ρ st := rfl
theorem forL_cons {step : D → Env → S → RS} {x : D} {r : List D} : forL step (x :: r) ρ st = forK step r (step x ρ st) := by
  simp only [forL]
  cases step x ρ st <;> rfl
theorem forK_nx {step : D → Env → S → RS} {r : List D} : forK step r (.nx ρ st) = forL step r ρ st := rfl
theorem forK_cont {step : D → Env → S → RS} {r : List D} : forK step r (.cont ρ st) = forL step r ρ st := rfl
theorem forK_brk {step : D → Env → S → RS} {r : List D} : forK step r (.brk ρ st) = .nx ρ st := rfl
theorem forK_ret {step : D → Env → S → RS} {r : List D} {d : D} : forK step r (.ret d st) = .ret d st := rfl
theorem forK_err {step : D → Env → S → RS} {r : List D} {e : Ex} : forK step r (.err e ρ st) = .err e ρ st := rfl
/-- a loop whose turns keep I, whatever was drawn -/
theorem forL_inv {step : D → Env → S → RS} {I : Nat → Env → S → Prop} {c : Nat} : ∀ {xs : List D} {n : Nat} {ρ : Env} {st : S}, I n ρ st → (∀ x ∈ xs, ∀ m ρ s, n ≤ m → m ≤ n + c * xs.length → I m ρ s → ∃ ρ' s', step x ρ s = .nx ρ' s' ∧ I (m + c) ρ' s') → ∃ ρ' s', forL step xs ρ st = .nx ρ' s' ∧ I (n + c * xs.length) ρ' s'
  | [], n, ρ, st, h, _ => ⟨ρ, st, rfl, by simpa using h⟩
  | x :: r, n, ρ, st, h, k => by
    have hl : c * (x :: r).length = c * r.length + c := by rw [List.length_cons, Nat.mul_succ]
    obtain ⟨ρ1, s1, e1, i1⟩ := k x List.mem_cons_self n ρ st (Nat.le_refl _) (by omega) h
    obtain ⟨ρ2, s2, e2, i2⟩ := forL_inv (step := step) (I := I) (c := c) (xs := r) (n := n + c) i1 fun y hy m ρ s h1 h2 hI => k y (List.mem_cons_of_mem _ hy) m ρ s (by omega) (by omega) hI
    refine ⟨ρ2, s2, ?_, ?_⟩
    · simp only [forL, e1, e2]
    · rw [hl, show n + (c * r.length + c) = n + c + c * r.length by omega]
      exact i2
end
end DE
namespace DE
open PySem
/-! ### the def that begins the drawing list -/
def urnES (k : Int) : List C := [(.comp (.bi .int [(.var 1)]) (.nm 1) .val [(.slc (.var 0) none (some (.cst (.int k))))] [] [1]), (.cst (.int 0)), (.cst (.int 0))]
theorem slc_ints' {ns : List Int} {lo hi : Option Int} : ∃ cs : List Int, slcL (ns.map .int) lo hi = cs.map .int ∧ cs.length ≤ ns.length := by
  refine ⟨((ns.drop _).take _), by unfold slcL; rw [← List.map_drop, ← List.map_take], ?_⟩
  rw [List.length_take, List.length_drop]
  omega
theorem urn_gen {Γ : Gam} {ns : List Int} (k : Int) (h : ns.length ≤ 63) : ∃ st, runL Γ 2 (urnES k) [.klst (ns.map .int)] [] = .ok st [] ∧ JS 0 st := by
  obtain ⟨cs, e, hl⟩ := slc_ints' (ns := ns) (lo := none) (hi := some k)
  refine ⟨[.lst (cs.map .int), .int 0, .int 0], ?_, cs, 0, 0, rfl, by omega, by omega, by omega⟩
  have s1 : slcD (.klst (ns.map .int)) none (some k) = some (.lst (cs.map .int)) := by rw [← e]; rfl
  have f1 : few (cs.map D.int) = some (cs.map .int) := few_ok (Nat.ble_eq_true_of_le (by simp; omega))
  have cp : compL (fun x => noErr (compT (.nm 1) [1] [.val (.klst (ns.map .int)), .non] (evt Γ []) (ev Γ (.bi .int [.var 1])) x)) (cs.map .int) [] = .ok (cs.map .int) [] := by
    refine compL_map (g := .int) (h := .int) fun x hx => ?_
    simp only [noErr_ap, compT_ap, wipeE_cons, wipeE_nil, assignN, evt_nil, ev_bi, evs_cons, evs_nil, ev_var, gv_z, gv_s, rb_ok, mb_ap, mp_ap, lift_ap, bi_int, selT_t, noErrR_ok, List.set_cons_succ, List.set_cons_zero, List.length_cons, List.length_nil, Nat.reduceAdd, Nat.reduceLT, if_true]
  have z : ∀ r : Option Int, (fun (k : Option Int → M D) => k) = fun k => k := fun _ => rfl
  simp only [runL, urnES, List.map_cons, List.map_nil, List.length_cons, List.length_nil, Nat.reduceAdd, Nat.reduceSub, List.replicate, List.cons_append, List.nil_append, evs_cons, evs_nil, ev_comp', ev_slc, ev_cst, ev_var, evo_none, evo_some, isInt_int, gv_z, gv_s, rb_ok, mb_ap, mp_ap, lift_ap, Option.map_some, s1, it_l, f1, cp]
end DE
namespace LK
open PySem PySem.W PyProof.Rows PySem.Spec L2 DE He
/-! the errors of the package, their fields -/
def exP : List (Str × List Str) := [(("BadNumber" : Str), ["part"]), (("BadPoint" : Str), ["part"]), (("BadText" : Str), ["part"]), (("BadFence" : Str), ["part"]), (("BadLot" : Str), ["part"]), (("BadRatio" : Str), ["part"]), (("BadSides" : Str), ["part"]), (("BadFilm" : Str), ["part"]), (("BadEars" : Str), ["part"]), (("BadPaper" : Str), ["part"]), (("Misfit" : Str), ["part"]), (("NoFence" : Str), ["why"]), (("NoLot" : Str), ["why"]), (("NoFilm" : Str), ["word", "fence", "side"]), (("TooMany" : Str), ["what", "most"]), (("BadLine" : Str), ["line", "word"])]
def cs_is_integer : List CS := [(.ret (.and (.isi (.var 0) [.bt "int"]) (.not (.isi (.var 0) [.bt "bool"]))))]
def g_is_integer : Gam := { fn := fun x ds =>  fun _ => .stuck, ex := fun x => exP.lookup x, sub := fun _ _ => none }
def F_is_integer : List D → M D := runF g_is_integer 1 cs_is_integer
def cs_is_within : List CS := [(.ite (.not (.call "is_integer" [(.var 0)])) [(.ret (.cst (.bl false)))] []), (.ret (.and (.or (.cmp .isN (.var 1) (.cst .non)) (.cmp .ge (.var 0) (.var 1))) (.or (.cmp .isN (.var 2) (.cst .non)) (.cmp .le (.var 0) (.var 2)))))]
def g_is_within : Gam := { fn := fun x ds => if x = "is_integer" then F_is_integer ds else fun _ => .stuck, ex := fun x => exP.lookup x, sub := fun _ _ => none }
theorem fn_is_within_is_integer : g_is_within.fn "is_integer" = F_is_integer := by kernel_rfl
def F_is_within : List D → M D := runF g_is_within 3 cs_is_within
def cs_is_number : List CS := [(.ite (.call "is_integer" [(.var 0)]) [(.ret (.cst (.bl true)))] []), (.ite (.or (.not (.isi (.var 0) [.bt "list", .bt "tuple"])) (.cmp .ne (.bi .len [(.var 0)]) (.cst (.int 2)))) [(.ret (.cst (.bl false)))] []), (.ite (.or (.not (.call "is_integer" [(.idx (.var 0) (.cst (.int 0)))])) (.not (.call "is_within" [(.idx (.var 0) (.cst (.int 1))), (.cst (.int 1)), (.cst .non)]))) [(.ret (.cst (.bl false)))] []), (.ret (.cmp .eq (.bi .gcd [(.idx (.var 0) (.cst (.int 0))), (.idx (.var 0) (.cst (.int 1)))]) (.cst (.int 1))))]
def g_is_number : Gam := { fn := fun x ds => if x = "is_integer" then F_is_integer ds else if x = "is_within" then F_is_within ds else fun _ => .stuck, ex := fun x => exP.lookup x, sub := fun _ _ => none }
theorem fn_is_number_is_integer : g_is_number.fn "is_integer" = F_is_integer := by kernel_rfl
theorem fn_is_number_is_within : g_is_number.fn "is_within" = F_is_within := by kernel_rfl
def F_is_number : List D → M D := runF g_is_number 1 cs_is_number
def cs_is_point : List CS := [(.ite (.or (.not (.isi (.var 0) [.bt "list", .bt "tuple"])) (.cmp .ne (.bi .len [(.var 0)]) (.cst (.int 2)))) [(.ret (.cst (.bl false)))] []), (.ret (.and (.call "is_number" [(.idx (.var 0) (.cst (.int 0)))]) (.call "is_number" [(.idx (.var 0) (.cst (.int 1)))])))]
def g_is_point : Gam := { fn := fun x ds => if x = "is_number" then F_is_number ds else fun _ => .stuck, ex := fun x => exP.lookup x, sub := fun _ _ => none }
theorem fn_is_point_is_number : g_is_point.fn "is_number" = F_is_number := by kernel_rfl
def F_is_point : List D → M D := runF g_is_point 1 cs_is_point
def cs_are_points : List CS := [(.ite (.or (.not (.isi (.var 0) [.bt "list", .bt "tuple"])) (.not (.chain .le .le (.var 1) (.bi .len [(.var 0)]) (.var 2)))) [(.ret (.cst (.bl false)))] []), (.ret (.bi .all [(.comp (.call "is_point" [(.var 3)]) (.nm 3) .val [(.var 0)] [] [3])]))]
def g_are_points : Gam := { fn := fun x ds => if x = "is_point" then F_is_point ds else fun _ => .stuck, ex := fun x => exP.lookup x, sub := fun _ _ => none }
theorem fn_are_points_is_point : g_are_points.fn "is_point" = F_is_point := by kernel_rfl
def F_are_points : List D → M D := runF g_are_points 4 cs_are_points
def cs_lowest : List CS := [(.set (.nm 2) (.bi .gcd [(.var 0), (.var 1)])), (.ite (.cmp .lt (.var 1) (.cst (.int 0))) [(.set (.nm 2) (.neg (.var 2)))] []), (.ret (.tup [(.bin .fdiv (.var 0) (.var 2)), (.bin .fdiv (.var 1) (.var 2))]))]
def g_lowest : Gam := { fn := fun x ds =>  fun _ => .stuck, ex := fun x => exP.lookup x, sub := fun _ _ => none }
def F_lowest : List D → M D := runF g_lowest 3 cs_lowest
def cs_as_number : List CS := [(.ite (.call "is_integer" [(.var 0)]) [(.ret (.tup [(.var 0), (.cst (.int 1))]))] []), (.ret (.tup [(.idx (.var 0) (.cst (.int 0))), (.idx (.var 0) (.cst (.int 1)))]))]
def g_as_number : Gam := { fn := fun x ds => if x = "is_integer" then F_is_integer ds else fun _ => .stuck, ex := fun x => exP.lookup x, sub := fun _ _ => none }
theorem fn_as_number_is_integer : g_as_number.fn "is_integer" = F_is_integer := by kernel_rfl
def F_as_number : List D → M D := runF g_as_number 1 cs_as_number
def cs_sum_of : List CS := [(.ret (.call "lowest" [(.bin .add (.bin .mul (.idx (.var 0) (.cst (.int 0))) (.idx (.var 1) (.cst (.int 1)))) (.bin .mul (.idx (.var 1) (.cst (.int 0))) (.idx (.var 0) (.cst (.int 1))))), (.bin .mul (.idx (.var 0) (.cst (.int 1))) (.idx (.var 1) (.cst (.int 1))))]))]
def g_sum_of : Gam := { fn := fun x ds => if x = "lowest" then F_lowest ds else fun _ => .stuck, ex := fun x => exP.lookup x, sub := fun _ _ => none }
theorem fn_sum_of_lowest : g_sum_of.fn "lowest" = F_lowest := by kernel_rfl
def F_sum_of : List D → M D := runF g_sum_of 2 cs_sum_of
def cs_rest_of : List CS := [(.ret (.call "lowest" [(.bin .sub (.bin .mul (.idx (.var 0) (.cst (.int 0))) (.idx (.var 1) (.cst (.int 1)))) (.bin .mul (.idx (.var 1) (.cst (.int 0))) (.idx (.var 0) (.cst (.int 1))))), (.bin .mul (.idx (.var 0) (.cst (.int 1))) (.idx (.var 1) (.cst (.int 1))))]))]
def g_rest_of : Gam := { fn := fun x ds => if x = "lowest" then F_lowest ds else fun _ => .stuck, ex := fun x => exP.lookup x, sub := fun _ _ => none }
theorem fn_rest_of_lowest : g_rest_of.fn "lowest" = F_lowest := by kernel_rfl
def F_rest_of : List D → M D := runF g_rest_of 2 cs_rest_of
def cs_product_of : List CS := [(.ret (.call "lowest" [(.bin .mul (.idx (.var 0) (.cst (.int 0))) (.idx (.var 1) (.cst (.int 0)))), (.bin .mul (.idx (.var 0) (.cst (.int 1))) (.idx (.var 1) (.cst (.int 1))))]))]
def g_product_of : Gam := { fn := fun x ds => if x = "lowest" then F_lowest ds else fun _ => .stuck, ex := fun x => exP.lookup x, sub := fun _ _ => none }
theorem fn_product_of_lowest : g_product_of.fn "lowest" = F_lowest := by kernel_rfl
def F_product_of : List D → M D := runF g_product_of 2 cs_product_of
def cs_quotient_of : List CS := [(.ret (.call "lowest" [(.bin .mul (.idx (.var 0) (.cst (.int 0))) (.idx (.var 1) (.cst (.int 1)))), (.bin .mul (.idx (.var 0) (.cst (.int 1))) (.idx (.var 1) (.cst (.int 0))))]))]
def g_quotient_of : Gam := { fn := fun x ds => if x = "lowest" then F_lowest ds else fun _ => .stuck, ex := fun x => exP.lookup x, sub := fun _ _ => none }
theorem fn_quotient_of_lowest : g_quotient_of.fn "lowest" = F_lowest := by kernel_rfl
def F_quotient_of : List D → M D := runF g_quotient_of 2 cs_quotient_of
def cs_comes_before : List CS := [(.ret (.cmp .lt (.bin .mul (.idx (.var 0) (.cst (.int 0))) (.idx (.var 1) (.cst (.int 1)))) (.bin .mul (.idx (.var 1) (.cst (.int 0))) (.idx (.var 0) (.cst (.int 1))))))]
def g_comes_before : Gam := { fn := fun x ds =>  fun _ => .stuck, ex := fun x => exP.lookup x, sub := fun _ _ => none }
def F_comes_before : List D → M D := runF g_comes_before 2 cs_comes_before
def cs_checked : List CS := [(.ite (.not (.call "is_number" [(.var 0)])) [(.raise "BadNumber" [(.var 1)])] []), (.ret (.call "as_number" [(.var 0)]))]
def g_checked : Gam := { fn := fun x ds => if x = "as_number" then F_as_number ds else if x = "is_number" then F_is_number ds else fun _ => .stuck, ex := fun x => exP.lookup x, sub := fun _ _ => none }
theorem fn_checked_as_number : g_checked.fn "as_number" = F_as_number := by kernel_rfl
theorem fn_checked_is_number : g_checked.fn "is_number" = F_is_number := by kernel_rfl
theorem gx_checked_BadNumber : g_checked.ex "BadNumber" = some (["part"] : List Str) := by kernel_rfl
def F_checked : List D → M D := runF g_checked 2 cs_checked
def cs_number : List CS := [(.ite (.not (.call "is_integer" [(.var 0)])) [(.raise "BadNumber" [(.cst (.str "top"))])] []), (.ite (.or (.not (.call "is_integer" [(.var 1)])) (.cmp .eq (.var 1) (.cst (.int 0)))) [(.raise "BadNumber" [(.cst (.str "under"))])] []), (.ret (.call "lowest" [(.var 0), (.var 1)]))]
def g_number : Gam := { fn := fun x ds => if x = "lowest" then F_lowest ds else if x = "is_integer" then F_is_integer ds else fun _ => .stuck, ex := fun x => exP.lookup x, sub := fun _ _ => none }
theorem fn_number_lowest : g_number.fn "lowest" = F_lowest := by kernel_rfl
theorem fn_number_is_integer : g_number.fn "is_integer" = F_is_integer := by kernel_rfl
theorem gx_number_BadNumber : g_number.ex "BadNumber" = some (["part"] : List Str) := by kernel_rfl
def F_number : List D → M D := runF g_number 2 cs_number
def cs_plus : List CS := [(.set (.nm 2) (.call "checked" [(.var 0), (.cst (.str "one"))])), (.ret (.call "sum_of" [(.var 2), (.call "checked" [(.var 1), (.cst (.str "other"))])]))]
def g_plus : Gam := { fn := fun x ds => if x = "checked" then F_checked ds else if x = "sum_of" then F_sum_of ds else fun _ => .stuck, ex := fun x => exP.lookup x, sub := fun _ _ => none }
theorem fn_plus_checked : g_plus.fn "checked" = F_checked := by kernel_rfl
theorem fn_plus_sum_of : g_plus.fn "sum_of" = F_sum_of := by kernel_rfl
def F_plus : List D → M D := runF g_plus 3 cs_plus
def cs_minus : List CS := [(.set (.nm 2) (.call "checked" [(.var 0), (.cst (.str "one"))])), (.ret (.call "rest_of" [(.var 2), (.call "checked" [(.var 1), (.cst (.str "other"))])]))]
def g_minus : Gam := { fn := fun x ds => if x = "checked" then F_checked ds else if x = "rest_of" then F_rest_of ds else fun _ => .stuck, ex := fun x => exP.lookup x, sub := fun _ _ => none }
theorem fn_minus_checked : g_minus.fn "checked" = F_checked := by kernel_rfl
theorem fn_minus_rest_of : g_minus.fn "rest_of" = F_rest_of := by kernel_rfl
def F_minus : List D → M D := runF g_minus 3 cs_minus
def cs_times : List CS := [(.set (.nm 2) (.call "checked" [(.var 0), (.cst (.str "one"))])), (.ret (.call "product_of" [(.var 2), (.call "checked" [(.var 1), (.cst (.str "other"))])]))]
def g_times : Gam := { fn := fun x ds => if x = "checked" then F_checked ds else if x = "product_of" then F_product_of ds else fun _ => .stuck, ex := fun x => exP.lookup x, sub := fun _ _ => none }
theorem fn_times_checked : g_times.fn "checked" = F_checked := by kernel_rfl
theorem fn_times_product_of : g_times.fn "product_of" = F_product_of := by kernel_rfl
def F_times : List D → M D := runF g_times 3 cs_times
def cs_over : List CS := [(.set (.nm 2) (.call "checked" [(.var 0), (.cst (.str "one"))])), (.set (.nm 3) (.call "checked" [(.var 1), (.cst (.str "other"))])), (.ite (.cmp .eq (.idx (.var 3) (.cst (.int 0))) (.cst (.int 0))) [(.raise "BadNumber" [(.cst (.str "other"))])] []), (.ret (.call "quotient_of" [(.var 2), (.var 3)]))]
def g_over : Gam := { fn := fun x ds => if x = "checked" then F_checked ds else if x = "quotient_of" then F_quotient_of ds else fun _ => .stuck, ex := fun x => exP.lookup x, sub := fun _ _ => none }
theorem fn_over_checked : g_over.fn "checked" = F_checked := by kernel_rfl
theorem fn_over_quotient_of : g_over.fn "quotient_of" = F_quotient_of := by kernel_rfl
theorem gx_over_BadNumber : g_over.ex "BadNumber" = some (["part"] : List Str) := by kernel_rfl
def F_over : List D → M D := runF g_over 4 cs_over
def cs_is_less : List CS := [(.set (.nm 2) (.call "checked" [(.var 0), (.cst (.str "one"))])), (.ret (.call "comes_before" [(.var 2), (.call "checked" [(.var 1), (.cst (.str "other"))])]))]
def g_is_less : Gam := { fn := fun x ds => if x = "checked" then F_checked ds else if x = "comes_before" then F_comes_before ds else fun _ => .stuck, ex := fun x => exP.lookup x, sub := fun _ _ => none }
theorem fn_is_less_checked : g_is_less.fn "checked" = F_checked := by kernel_rfl
theorem fn_is_less_comes_before : g_is_less.fn "comes_before" = F_comes_before := by kernel_rfl
def F_is_less : List D → M D := runF g_is_less 3 cs_is_less
def cs_sign_of : List CS := [(.set (.nm 1) (.idx (.call "checked" [(.var 0), (.cst (.str "value"))]) (.cst (.int 0)))), (.ret (.bin .sub (.cmp .gt (.var 1) (.cst (.int 0))) (.cmp .lt (.var 1) (.cst (.int 0)))))]
def g_sign_of : Gam := { fn := fun x ds => if x = "checked" then F_checked ds else fun _ => .stuck, ex := fun x => exP.lookup x, sub := fun _ _ => none }
theorem fn_sign_of_checked : g_sign_of.fn "checked" = F_checked := by kernel_rfl
def F_sign_of : List D → M D := runF g_sign_of 2 cs_sign_of
def cs_as_point : List CS := [(.ret (.tup [(.call "as_number" [(.idx (.var 0) (.cst (.int 0)))]), (.call "as_number" [(.idx (.var 0) (.cst (.int 1)))])]))]
def g_as_point : Gam := { fn := fun x ds => if x = "as_number" then F_as_number ds else fun _ => .stuck, ex := fun x => exP.lookup x, sub := fun _ _ => none }
theorem fn_as_point_as_number : g_as_point.fn "as_number" = F_as_number := by kernel_rfl
def F_as_point : List D → M D := runF g_as_point 1 cs_as_point
def cs_sum_points : List CS := [(.ret (.tup [(.call "sum_of" [(.idx (.var 0) (.cst (.int 0))), (.idx (.var 1) (.cst (.int 0)))]), (.call "sum_of" [(.idx (.var 0) (.cst (.int 1))), (.idx (.var 1) (.cst (.int 1)))])]))]
def g_sum_points : Gam := { fn := fun x ds => if x = "sum_of" then F_sum_of ds else fun _ => .stuck, ex := fun x => exP.lookup x, sub := fun _ _ => none }
theorem fn_sum_points_sum_of : g_sum_points.fn "sum_of" = F_sum_of := by kernel_rfl
def F_sum_points : List D → M D := runF g_sum_points 2 cs_sum_points
def cs_rest_points : List CS := [(.ret (.tup [(.call "rest_of" [(.idx (.var 0) (.cst (.int 0))), (.idx (.var 1) (.cst (.int 0)))]), (.call "rest_of" [(.idx (.var 0) (.cst (.int 1))), (.idx (.var 1) (.cst (.int 1)))])]))]
def g_rest_points : Gam := { fn := fun x ds => if x = "rest_of" then F_rest_of ds else fun _ => .stuck, ex := fun x => exP.lookup x, sub := fun _ _ => none }
theorem fn_rest_points_rest_of : g_rest_points.fn "rest_of" = F_rest_of := by kernel_rfl
def F_rest_points : List D → M D := runF g_rest_points 2 cs_rest_points
def cs_times_point : List CS := [(.ret (.tup [(.call "product_of" [(.idx (.var 0) (.cst (.int 0))), (.var 1)]), (.call "product_of" [(.idx (.var 0) (.cst (.int 1))), (.var 1)])]))]
def g_times_point : Gam := { fn := fun x ds => if x = "product_of" then F_product_of ds else fun _ => .stuck, ex := fun x => exP.lookup x, sub := fun _ _ => none }
theorem fn_times_point_product_of : g_times_point.fn "product_of" = F_product_of := by kernel_rfl
def F_times_point : List D → M D := runF g_times_point 2 cs_times_point
def cs_turned_point : List CS := [(.set (.tp [(.nm 1), (.nm 2)]) (.var 0)), (.ret (.tup [(.tup [(.neg (.idx (.var 2) (.cst (.int 0)))), (.idx (.var 2) (.cst (.int 1)))]), (.var 1)]))]
def g_turned_point : Gam := { fn := fun x ds =>  fun _ => .stuck, ex := fun x => exP.lookup x, sub := fun _ _ => none }
def F_turned_point : List D → M D := runF g_turned_point 3 cs_turned_point
def cs_cross_of : List CS := [(.ret (.call "rest_of" [(.call "product_of" [(.idx (.var 0) (.cst (.int 0))), (.idx (.var 1) (.cst (.int 1)))]), (.call "product_of" [(.idx (.var 0) (.cst (.int 1))), (.idx (.var 1) (.cst (.int 0)))])]))]
def g_cross_of : Gam := { fn := fun x ds => if x = "rest_of" then F_rest_of ds else if x = "product_of" then F_product_of ds else fun _ => .stuck, ex := fun x => exP.lookup x, sub := fun _ _ => none }
theorem fn_cross_of_rest_of : g_cross_of.fn "rest_of" = F_rest_of := by kernel_rfl
theorem fn_cross_of_product_of : g_cross_of.fn "product_of" = F_product_of := by kernel_rfl
def F_cross_of : List D → M D := runF g_cross_of 2 cs_cross_of
def cs_dot_of : List CS := [(.ret (.call "sum_of" [(.call "product_of" [(.idx (.var 0) (.cst (.int 0))), (.idx (.var 1) (.cst (.int 0)))]), (.call "product_of" [(.idx (.var 0) (.cst (.int 1))), (.idx (.var 1) (.cst (.int 1)))])]))]
def g_dot_of : Gam := { fn := fun x ds => if x = "sum_of" then F_sum_of ds else if x = "product_of" then F_product_of ds else fun _ => .stuck, ex := fun x => exP.lookup x, sub := fun _ _ => none }
theorem fn_dot_of_sum_of : g_dot_of.fn "sum_of" = F_sum_of := by kernel_rfl
theorem fn_dot_of_product_of : g_dot_of.fn "product_of" = F_product_of := by kernel_rfl
def F_dot_of : List D → M D := runF g_dot_of 2 cs_dot_of
def cs_checked_point : List CS := [(.ite (.not (.call "is_point" [(.var 0)])) [(.raise "BadPoint" [(.var 1)])] []), (.ret (.call "as_point" [(.var 0)]))]
def g_checked_point : Gam := { fn := fun x ds => if x = "as_point" then F_as_point ds else if x = "is_point" then F_is_point ds else fun _ => .stuck, ex := fun x => exP.lookup x, sub := fun _ _ => none }
theorem fn_checked_point_as_point : g_checked_point.fn "as_point" = F_as_point := by kernel_rfl
theorem fn_checked_point_is_point : g_checked_point.fn "is_point" = F_is_point := by kernel_rfl
theorem gx_checked_point_BadPoint : g_checked_point.ex "BadPoint" = some (["part"] : List Str) := by kernel_rfl
def F_checked_point : List D → M D := runF g_checked_point 2 cs_checked_point
def cs_point : List CS := [(.set (.nm 2) (.call "checked" [(.var 0), (.cst (.str "x"))])), (.ret (.tup [(.var 2), (.call "checked" [(.var 1), (.cst (.str "y"))])]))]
def g_point : Gam := { fn := fun x ds => if x = "checked" then F_checked ds else fun _ => .stuck, ex := fun x => exP.lookup x, sub := fun _ _ => none }
theorem fn_point_checked : g_point.fn "checked" = F_checked := by kernel_rfl
def F_point : List D → M D := runF g_point 3 cs_point
def cs_added : List CS := [(.set (.nm 2) (.call "checked_point" [(.var 0), (.cst (.str "one"))])), (.ret (.call "sum_points" [(.var 2), (.call "checked_point" [(.var 1), (.cst (.str "other"))])]))]
def g_added : Gam := { fn := fun x ds => if x = "checked_point" then F_checked_point ds else if x = "sum_points" then F_sum_points ds else fun _ => .stuck, ex := fun x => exP.lookup x, sub := fun _ _ => none }
theorem fn_added_checked_point : g_added.fn "checked_point" = F_checked_point := by kernel_rfl
theorem fn_added_sum_points : g_added.fn "sum_points" = F_sum_points := by kernel_rfl
def F_added : List D → M D := runF g_added 3 cs_added
def cs_taken : List CS := [(.set (.nm 2) (.call "checked_point" [(.var 0), (.cst (.str "one"))])), (.ret (.call "rest_points" [(.var 2), (.call "checked_point" [(.var 1), (.cst (.str "other"))])]))]
def g_taken : Gam := { fn := fun x ds => if x = "checked_point" then F_checked_point ds else if x = "rest_points" then F_rest_points ds else fun _ => .stuck, ex := fun x => exP.lookup x, sub := fun _ _ => none }
theorem fn_taken_checked_point : g_taken.fn "checked_point" = F_checked_point := by kernel_rfl
theorem fn_taken_rest_points : g_taken.fn "rest_points" = F_rest_points := by kernel_rfl
def F_taken : List D → M D := runF g_taken 3 cs_taken
def cs_scaled : List CS := [(.set (.nm 2) (.call "checked_point" [(.var 0), (.cst (.str "vector"))])), (.ret (.call "times_point" [(.var 2), (.call "checked" [(.var 1), (.cst (.str "factor"))])]))]
def g_scaled : Gam := { fn := fun x ds => if x = "checked_point" then F_checked_point ds else if x = "times_point" then F_times_point ds else if x = "checked" then F_checked ds else fun _ => .stuck, ex := fun x => exP.lookup x, sub := fun _ _ => none }
theorem fn_scaled_checked_point : g_scaled.fn "checked_point" = F_checked_point := by kernel_rfl
theorem fn_scaled_times_point : g_scaled.fn "times_point" = F_times_point := by kernel_rfl
theorem fn_scaled_checked : g_scaled.fn "checked" = F_checked := by kernel_rfl
def F_scaled : List D → M D := runF g_scaled 3 cs_scaled
def cs_quarter : List CS := [(.ret (.call "turned_point" [(.call "checked_point" [(.var 0), (.cst (.str "vector"))])]))]
def g_quarter : Gam := { fn := fun x ds => if x = "turned_point" then F_turned_point ds else if x = "checked_point" then F_checked_point ds else fun _ => .stuck, ex := fun x => exP.lookup x, sub := fun _ _ => none }
theorem fn_quarter_turned_point : g_quarter.fn "turned_point" = F_turned_point := by kernel_rfl
theorem fn_quarter_checked_point : g_quarter.fn "checked_point" = F_checked_point := by kernel_rfl
def F_quarter : List D → M D := runF g_quarter 1 cs_quarter
def cs_cross : List CS := [(.set (.nm 2) (.call "checked_point" [(.var 0), (.cst (.str "one"))])), (.ret (.call "cross_of" [(.var 2), (.call "checked_point" [(.var 1), (.cst (.str "other"))])]))]
def g_cross : Gam := { fn := fun x ds => if x = "checked_point" then F_checked_point ds else if x = "cross_of" then F_cross_of ds else fun _ => .stuck, ex := fun x => exP.lookup x, sub := fun _ _ => none }
theorem fn_cross_checked_point : g_cross.fn "checked_point" = F_checked_point := by kernel_rfl
theorem fn_cross_cross_of : g_cross.fn "cross_of" = F_cross_of := by kernel_rfl
def F_cross : List D → M D := runF g_cross 3 cs_cross
def cs_dot : List CS := [(.set (.nm 2) (.call "checked_point" [(.var 0), (.cst (.str "one"))])), (.ret (.call "dot_of" [(.var 2), (.call "checked_point" [(.var 1), (.cst (.str "other"))])]))]
def g_dot : Gam := { fn := fun x ds => if x = "checked_point" then F_checked_point ds else if x = "dot_of" then F_dot_of ds else fun _ => .stuck, ex := fun x => exP.lookup x, sub := fun _ _ => none }
theorem fn_dot_checked_point : g_dot.fn "checked_point" = F_checked_point := by kernel_rfl
theorem fn_dot_dot_of : g_dot.fn "dot_of" = F_dot_of := by kernel_rfl
def F_dot : List D → M D := runF g_dot 3 cs_dot
def cs_squared : List CS := [(.set (.nm 2) (.call "checked_point" [(.var 0), (.cst (.str "one"))])), (.set (.nm 3) (.call "rest_points" [(.var 2), (.call "checked_point" [(.var 1), (.cst (.str "other"))])])), (.ret (.call "dot_of" [(.var 3), (.var 3)]))]
def g_squared : Gam := { fn := fun x ds => if x = "checked_point" then F_checked_point ds else if x = "rest_points" then F_rest_points ds else if x = "dot_of" then F_dot_of ds else fun _ => .stuck, ex := fun x => exP.lookup x, sub := fun _ _ => none }
theorem fn_squared_checked_point : g_squared.fn "checked_point" = F_checked_point := by kernel_rfl
theorem fn_squared_rest_points : g_squared.fn "rest_points" = F_rest_points := by kernel_rfl
theorem fn_squared_dot_of : g_squared.fn "dot_of" = F_dot_of := by kernel_rfl
def F_squared : List D → M D := runF g_squared 4 cs_squared
def cs_share_between : List CS := [(.ret (.call "sum_points" [(.var 0), (.call "times_point" [(.call "rest_points" [(.var 1), (.var 0)]), (.var 2)])]))]
def g_share_between : Gam := { fn := fun x ds => if x = "sum_points" then F_sum_points ds else if x = "times_point" then F_times_point ds else if x = "rest_points" then F_rest_points ds else fun _ => .stuck, ex := fun x => exP.lookup x, sub := fun _ _ => none }
theorem fn_share_between_sum_points : g_share_between.fn "sum_points" = F_sum_points := by kernel_rfl
theorem fn_share_between_times_point : g_share_between.fn "times_point" = F_times_point := by kernel_rfl
theorem fn_share_between_rest_points : g_share_between.fn "rest_points" = F_rest_points := by kernel_rfl
def F_share_between : List D → M D := runF g_share_between 3 cs_share_between
def cs_between : List CS := [(.set (.nm 3) (.call "checked_point" [(.var 0), (.cst (.str "one"))])), (.set (.nm 4) (.call "checked_point" [(.var 1), (.cst (.str "other"))])), (.ret (.call "share_between" [(.var 3), (.var 4), (.call "checked" [(.var 2), (.cst (.str "share"))])]))]
def g_between : Gam := { fn := fun x ds => if x = "checked_point" then F_checked_point ds else if x = "share_between" then F_share_between ds else if x = "checked" then F_checked ds else fun _ => .stuck, ex := fun x => exP.lookup x, sub := fun _ _ => none }
theorem fn_between_checked_point : g_between.fn "checked_point" = F_checked_point := by kernel_rfl
theorem fn_between_share_between : g_between.fn "share_between" = F_share_between := by kernel_rfl
theorem fn_between_checked : g_between.fn "checked" = F_checked := by kernel_rfl
def F_between : List D → M D := runF g_between 5 cs_between
end LK
/-! What the package's small defs tell -/
namespace LK
open PySem DE
theorem o_is_integer {d : D} {st : S} (h : kn d = true) : F_is_integer [d] st = .ok (.bl (isI d)) st := is_integer_ok h
theorem hasI_within : HasI g_is_within := ⟨fun x st h => by rw [fn_is_within_is_integer]; exact o_is_integer h⟩
theorem o_within_int {v : Int} {lo hi : Option Int} {st : S} : F_is_within [.int v, bdD lo, bdD hi] st = .ok (.bl (wi v lo hi)) st := is_within_int (hasI_within.int (.int v) st rfl)
theorem o_within_no {x a b : D} {st : S} (h : kn x = true) (hi : isI x = false) : F_is_within [x, a, b] st = .ok (.bl false) st := is_within_no (by rw [← hi]; exact hasI_within.int x st h)
theorem hasW_number : HasW g_is_number where
  int := fun x st h => by rw [fn_is_number_is_integer]; exact o_is_integer h
  win := fun v lo hi st => by rw [fn_is_number_is_within]; exact o_within_int
  wno := fun x a b st h hi => by rw [fn_is_number_is_within]; exact o_within_no h hi
theorem o_is_number {d : D} {st : S} (h : ask d = true) : F_is_number [d] st = .ok (.bl (isN d)) st := is_number_ok hasW_number h
theorem o_lowest {t u : Int} {k : Nat} {st : S} (hu : u ≠ 0) (hb : u.natAbs < 2 ^ k) (hk : k ≤ 8000) : F_lowest [.int t, .int u] st = .ok (dP (low t u)) st := lowest_ok hu hb hk
theorem o_as_number {d : D} {st : S} (h : isN d = true) : F_as_number [d] st = .ok (dP (nOf d)) st := as_number_ok ⟨fun x st h => by rw [fn_as_number_is_integer]; exact o_is_integer h⟩ h
theorem hasN_checked : HasN g_checked where
  isn := fun d st h => by rw [fn_checked_is_number]; exact o_is_number h
  asn := fun d st h => by rw [fn_checked_as_number]; exact o_as_number h
  ex := by kernel_rfl
theorem o_checked {d p : D} {st : S} (h : isN d = true) : F_checked [d, p] st = .ok (dP (nOf d)) st := checked_ok hasN_checked h
theorem o_checked_no {d p : D} {st : S} (ha : ask d = true) (h : isN d = false) : F_checked [d, p] st = .err (badN p) st := checked_no hasN_checked ha h
theorem hasC_plus : HasC g_plus := ⟨fun d p st h => by rw [fn_plus_checked]; exact o_checked h, fun d p st ha h => by rw [fn_plus_checked]; exact o_checked_no ha h⟩
theorem hasC_minus : HasC g_minus := ⟨fun d p st h => by rw [fn_minus_checked]; exact o_checked h, fun d p st ha h => by rw [fn_minus_checked]; exact o_checked_no ha h⟩
theorem hasC_times : HasC g_times := ⟨fun d p st h => by rw [fn_times_checked]; exact o_checked h, fun d p st ha h => by rw [fn_times_checked]; exact o_checked_no ha h⟩
theorem hasC_over : HasC g_over := ⟨fun d p st h => by rw [fn_over_checked]; exact o_checked h, fun d p st ha h => by rw [fn_over_checked]; exact o_checked_no ha h⟩
theorem hasC_is_less : HasC g_is_less := ⟨fun d p st h => by rw [fn_is_less_checked]; exact o_checked h, fun d p st ha h => by rw [fn_is_less_checked]; exact o_checked_no ha h⟩
theorem hasC_sign_of : HasC g_sign_of := ⟨fun d p st h => by rw [fn_sign_of_checked]; exact o_checked h, fun d p st ha h => by rw [fn_sign_of_checked]; exact o_checked_no ha h⟩
section
variable {x y : D} {st : S} {k : Nat}
theorem o_plus (h1 : isN x = true) (h2 : isN y = true) (h0 : 0 < k) (hk : k ≤ 4000) (ha : Bd k (nOf x)) (hb : Bd k (nOf y)) : F_plus [x, y] st = .ok (dP (addF (nOf x) (nOf y))) st :=
  two_ok (op := "sum_of") hasC_plus h1 h2 (by
    rw [fn_plus_sum_of]
    have f1 := (isN_fr h1).1
    have f2 := (isN_fr h2).1
    exact sum_ok ⟨fun t u k st hu hb hk => by rw [fn_sum_of_lowest]; exact o_lowest hu hb hk⟩ h0 hk ha hb (by omega) (by omega))
theorem o_minus (h1 : isN x = true) (h2 : isN y = true) (h0 : 0 < k) (hk : k ≤ 4000) (ha : Bd k (nOf x)) (hb : Bd k (nOf y)) : F_minus [x, y] st = .ok (dP (subF (nOf x) (nOf y))) st :=
  two_ok (op := "rest_of") hasC_minus h1 h2 (by
    rw [fn_minus_rest_of]
    have f1 := (isN_fr h1).1
    have f2 := (isN_fr h2).1
    exact rest_ok ⟨fun t u k st hu hb hk => by rw [fn_rest_of_lowest]; exact o_lowest hu hb hk⟩ h0 hk ha hb (by omega) (by omega))
theorem o_times (h1 : isN x = true) (h2 : isN y = true) (h0 : 0 < k) (hk : k ≤ 4000) (ha : Bd k (nOf x)) (hb : Bd k (nOf y)) : F_times [x, y] st = .ok (dP (mulF (nOf x) (nOf y))) st :=
  two_ok (op := "product_of") hasC_times h1 h2 (by
    rw [fn_times_product_of]
    have f1 := (isN_fr h1).1
    have f2 := (isN_fr h2).1
    exact prod_ok ⟨fun t u k st hu hb hk => by rw [fn_product_of_lowest]; exact o_lowest hu hb hk⟩ h0 hk ha hb (by omega) (by omega))
theorem o_over (h1 : isN x = true) (h2 : isN y = true) (hz : (nOf y).1 ≠ 0) (h0 : 0 < k) (hk : k ≤ 4000) (ha : Bd k (nOf x)) (hb : Bd k (nOf y)) : F_over [x, y] st = .ok (dP (divF (nOf x) (nOf y))) st :=
  over_ok hasC_over h1 h2 hz (by
    rw [fn_over_quotient_of]
    have f1 := (isN_fr h1).1
    exact quot_ok ⟨fun t u k st hu hb hk => by rw [fn_quotient_of_lowest]; exact o_lowest hu hb hk⟩ h0 hk ha hb (by omega) hz)
theorem o_is_less (h1 : isN x = true) (h2 : isN y = true) (h0 : 0 < k) (hk : k ≤ 4000) (ha : Bd k (nOf x)) (hb : Bd k (nOf y)) : F_is_less [x, y] st = .ok (.bl (decide ((nOf x).1 * (nOf y).2 < (nOf y).1 * (nOf x).2))) st :=
  two_ok (op := "comes_before") hasC_is_less h1 h2 (by rw [fn_is_less_comes_before]; exact before_ok h0 hk ha hb)
theorem o_sign_of (h1 : isN x = true) : F_sign_of [x] st = .ok (.int ((if decide (0 < (nOf x).1) then 1 else 0) - (if decide ((nOf x).1 < 0) then 1 else 0))) st := sign_ok hasC_sign_of h1
theorem hasI_num : HasI g_number := ⟨fun x st h => by rw [fn_number_is_integer]; exact o_is_integer h⟩
theorem ex_num : g_number.ex "BadNumber" = some [("part" : Str)] := by kernel_rfl
theorem o_number {t u : Int} (hu : u ≠ 0) (hb : u.natAbs < 2 ^ k) (hk : k ≤ 8000) : F_number [.int t, .int u] st = .ok (dP (low t u)) st :=
  number_ok hasI_num ⟨fun t u k st hu hb hk => by rw [fn_number_lowest]; exact o_lowest hu hb hk⟩ hu hb hk
/-! ### what refuses -/
theorem m_plus1 (ha : ask x = true) (h : isN x = false) : F_plus [x, y] st = .err (badN (.str "one")) st := two_no1 (op := "sum_of") hasC_plus ha h
theorem m_plus2 (h1 : isN x = true) (ha : ask y = true) (h : isN y = false) : F_plus [x, y] st = .err (badN (.str "other")) st := two_no2 (op := "sum_of") hasC_plus h1 ha h
theorem m_minus1 (ha : ask x = true) (h : isN x = false) : F_minus [x, y] st = .err (badN (.str "one")) st := two_no1 (op := "rest_of") hasC_minus ha h
theorem m_minus2 (h1 : isN x = true) (ha : ask y = true) (h : isN y = false) : F_minus [x, y] st = .err (badN (.str "other")) st := two_no2 (op := "rest_of") hasC_minus h1 ha h
theorem m_times1 (ha : ask x = true) (h : isN x = false) : F_times [x, y] st = .err (badN (.str "one")) st := two_no1 (op := "product_of") hasC_times ha h
theorem m_times2 (h1 : isN x = true) (ha : ask y = true) (h : isN y = false) : F_times [x, y] st = .err (badN (.str "other")) st := two_no2 (op := "product_of") hasC_times h1 ha h
theorem m_over1 (ha : ask x = true) (h : isN x = false) : F_over [x, y] st = .err (badN (.str "one")) st := over_no1 hasC_over ha h
theorem m_over2 (h1 : isN x = true) (ha : ask y = true) (h : isN y = false) : F_over [x, y] st = .err (badN (.str "other")) st := over_no2 hasC_over h1 ha h
theorem m_over3 (h1 : isN x = true) (h2 : isN y = true) (hz : (nOf y).1 = 0) : F_over [x, y] st = .err (badN (.str "other")) st := over_no3 hasC_over (by kernel_rfl) h1 h2 hz
theorem m_is_less1 (ha : ask x = true) (h : isN x = false) : F_is_less [x, y] st = .err (badN (.str "one")) st := two_no1 (op := "comes_before") hasC_is_less ha h
theorem m_is_less2 (h1 : isN x = true) (ha : ask y = true) (h : isN y = false) : F_is_less [x, y] st = .err (badN (.str "other")) st := two_no2 (op := "comes_before") hasC_is_less h1 ha h
theorem m_sign_of (ha : ask x = true) (h : isN x = false) : F_sign_of [x] st = .err (badN (.str "value")) st := sign_no hasC_sign_of ha h
theorem m_number1 (hk : kn x = true) (h : isI x = false) : F_number [x, y] st = .err (badN (.str "top")) st := number_no1 hasI_num ex_num hk h
theorem m_number2 {t : Int} (hk : kn y = true) (h : isI y = false) : F_number [.int t, y] st = .err (badN (.str "under")) st := number_no2 hasI_num ex_num hk h
theorem m_number3 {t : Int} : F_number [.int t, .int 0] st = .err (badN (.str "under")) st := number_no3 hasI_num ex_num
end
/-- a value that is the number a -/
class NmR (d : D) (a : outParam (Int × Int)) : Prop where
  h : isN d = true
  e : nOf d = a
/-- a value that is none -/
class NoN (d : D) : Prop where
  k : ask d = true
  h : isN d = false
instance nm_dP {a : Int × Int} {k l : Nat} [x : FB a k l] : NmR (dP a) a := ⟨FB.isN, rfl⟩
instance nm_lP {a : Int × Int} {k l : Nat} [x : FB a k l] : NmR (.lst [.int a.1, .int a.2]) a := ⟨FB.isN (a := a), rfl⟩
instance nm_int {i : Int} : NmR (.int i) (i, 1) := ⟨rfl, rfl⟩
instance fb_int {i : Int} {k : Nat} [NB i k] : FB (i, 1) k 1 := ⟨⟨Int.le_refl 1, by simp⟩, NB.h, by show (1 : Int).natAbs < 2 ^ 1; decide⟩
section
variable {x y : D} {a b c d : Int × Int} {st : S} {k l m n k2 l2 m2 n2 : Nat}
def b4 (k l m n : Nat) : Bool := Nat.ble (nmax (nmax k l) (nmax m n)) 3900
theorem b4_ok (h : b4 k l m n = true) : k ≤ 3900 ∧ l ≤ 3900 ∧ m ≤ 3900 ∧ n ≤ 3900 := by
  have h := Nat.le_of_ble_eq_true h
  have := @nmax_l (nmax k l) (nmax m n)
  have := @nmax_r (nmax k l) (nmax m n)
  have := @nmax_l k l
  have := @nmax_r k l
  have := @nmax_l m n
  have := @nmax_r m n
  omega
theorem _root_.DE.FB.bd (x : FB a k l) {j : Nat} (h1 : k ≤ j) (h2 : l ≤ j) : Bd j a := ⟨Nat.lt_of_lt_of_le x.h1 (pow2_le h1), Nat.lt_of_lt_of_le x.h2 (pow2_le h2)⟩
theorem s_lowest {t u : Int} [a : NB u k] (hu : u ≠ 0) (h : Nat.ble k 8000 = true) : F_lowest [.int t, .int u] st = .ok (dP (low t u)) st := o_lowest hu a.h (Nat.le_of_ble_eq_true h)
theorem s_is_number [x : NmR y a] : F_is_number [y] st = .ok (.bl true) st := by rw [o_is_number (isN_ask x.h), x.h]
theorem n_is_number [x : NoN y] : F_is_number [y] st = .ok (.bl false) st := by rw [o_is_number x.k, x.h]
theorem s_as_number [x : NmR y a] : F_as_number [y] st = .ok (dP a) st := by rw [o_as_number x.h, x.e]
theorem s_checked {p : D} [x : NmR y a] : F_checked [y, p] st = .ok (dP a) st := by rw [o_checked x.h, x.e]
theorem n_checked {p : D} [x : NoN y] : F_checked [y, p] st = .err (badN p) st := o_checked_no x.k x.h
theorem s_sum_of [x : FB a k l] [y : FB b m n] (h : b4 k l m n = true) : F_sum_of [dP a, dP b] st = .ok (dP (addF a b)) st := by
  obtain ⟨h1, h2, h3, h4⟩ := b4_ok h
  exact sum_ok ⟨fun t u k st hu hb hk => by rw [fn_sum_of_lowest]; exact o_lowest hu hb hk⟩ (k := 3900) (by omega) (by omega) (x.bd h1 h2) (y.bd h3 h4) x.ne y.ne
theorem s_rest_of [x : FB a k l] [y : FB b m n] (h : b4 k l m n = true) : F_rest_of [dP a, dP b] st = .ok (dP (subF a b)) st := by
  obtain ⟨h1, h2, h3, h4⟩ := b4_ok h
  exact rest_ok ⟨fun t u k st hu hb hk => by rw [fn_rest_of_lowest]; exact o_lowest hu hb hk⟩ (k := 3900) (by omega) (by omega) (x.bd h1 h2) (y.bd h3 h4) x.ne y.ne
theorem s_product_of [x : FB a k l] [y : FB b m n] (h : b4 k l m n = true) : F_product_of [dP a, dP b] st = .ok (dP (mulF a b)) st := by
  obtain ⟨h1, h2, h3, h4⟩ := b4_ok h
  exact prod_ok ⟨fun t u k st hu hb hk => by rw [fn_product_of_lowest]; exact o_lowest hu hb hk⟩ (k := 3900) (by omega) (by omega) (x.bd h1 h2) (y.bd h3 h4) x.ne y.ne
end
/-! ### points -/
def isPt : D → Bool
  | .tup [x, y] => isN x && isN y
  | .lst [x, y] => isN x && isN y
  | _ => false
/-- data of which is_point can be asked -/
def askP : D → Bool
  | .tup [x, y] => ask x && ask y
  | .lst [x, y] => ask x && ask y
  | d => kn d
class PtR (d : D) (a b : outParam (Int × Int)) : Prop where
  ex : ∃ x y, (d = .tup [x, y] ∨ d = .lst [x, y]) ∧ NmR x a ∧ NmR y b
class NoP (d : D) : Prop where
  k : askP d = true
  h : isPt d = false
instance pt_tup {x y : D} {a b : Int × Int} [h : NmR x a] [g : NmR y b] : PtR (.tup [x, y]) a b := ⟨x, y, .inl rfl, h, g⟩
instance pt_lst {x y : D} {a b : Int × Int} [h : NmR x a] [g : NmR y b] : PtR (.lst [x, y]) a b := ⟨x, y, .inr rfl, h, g⟩
theorem isPt_longT {xs : List D} (h : xs.length ≠ 2) : isPt (.tup xs) = false := by
  match xs, h with
  | [], _ => rfl
  | [a], _ => rfl
  | a :: b :: c :: r, _ => rfl
theorem isPt_longL {xs : List D} (h : xs.length ≠ 2) : isPt (.lst xs) = false := by
  match xs, h with
  | [], _ => rfl
  | [a], _ => rfl
  | a :: b :: c :: r, _ => rfl
section
variable {st : S}
theorem o_is_point {d : D} (h : askP d = true) : F_is_point [d] st = .ok (.bl (isPt d)) st := by
  have two : (!decide ((((0 + 1 + 1 : Nat)) : Int) = 2)) = false := by decide
  have pair : ∀ (a b : D) (sq : List D → D), (∀ xs i st, idxM (sq xs) i st = idxM (.tup xs) i st) → (∀ xs, isiD (sq xs) [.bt "list", .bt "tuple"] = some true) → (∀ xs, biD .len [sq xs] = some (.int (xs.length : Nat))) → ask a = true → ask b = true →
      F_is_point [sq [a, b]] st = .ok (.bl (isN a && isN b)) st := by
    intro a b sq q1 q4 q5 ka kb
    have ea := o_is_number (st := st) ka
    have eb := o_is_number (st := st) kb
    cases ha : isN a with
    | false =>
      rw [ha] at ea
      simp only [F_is_point, cs_is_point, runF_ap, runK_ret, runK_nx, runK_err, evSs_cs, evSs_nil, nxtS_nx, nxtS_ret, nxtS_err, nxtS_brk, nxtS_cont, bs_ok, bs_err, oo_some, selS_t, selS_f, evS_pass, evS_expr, evS_set, evS_par, evS_ret, evS_retN, evS_brk, evS_cont, evS_ite, evS_jput, evS_raise, evS_try, tryK, ev_var, ev_cst, ev_bin, ev_neg, ev_not, ev_cmp, ev_chain, ev_and, ev_or, ev_ite, ev_tup, ev_lst, ev_idx, ev_slc, ev_call, ev_bi, ev_isi, evs_nil, evs_cons, evo_none, evo_some, andK_bt, andK_bf, orK_bt, orK_bf, iteK_bt, iteK_bf, rb_ok, rb_err, mb_ap, mp_ap, lift_ap, gv_z, gv_s, List.map_cons, List.map_nil, List.length_cons, List.length_nil, List.length_set, List.replicate, List.cons_append, List.nil_append, Nat.reduceAdd, Nat.reduceSub, List.set_cons_zero, List.set_cons_succ, List.getElem?_cons_succ, List.getElem?_cons_zero, Option.map_some, Option.bind_some, assignN, setAll2, setAll3, setAll_nil, bin_add, bin_sub, bin_mul, bin_fdiv, bin_mod, bin_pow, cmp_lt, cmp_le, cmp_gt, cmp_ge, cmp_eqi, cmp_nei, negD_int, tru_bl, bi_int, bi_bl, bi_abs, bi_gcd, bi_lenl, bi_lent, isInt_int, jix, idxT0, idxT1, idxL0, idxL1, decide_true, decide_false, Bool.not_true, Bool.not_false, handle, ev_comp', noErr_ap, noErrR_ok, compL_nil, compL_cons, consO_s, consO_n, compT_ap, selT_t, selT_f, evt_nil, evt_cons, selE_t, selE_f, wipeE_nil, wipeE_cons, it_t, it_l, it_e, it_z, it_r, evS_loop, evH, evS_setT, assignTT, assignTL, assigns_nil, assigns_cons, Nat.reduceLT, if_true, if_false, isN_bb', notN_bb, notN_non, isN_non, isN_int, bi_lst_t, bi_lst_l, bi_tup_l, bi_tup_t, forK_nx, forK_cont, forK_brk, forK_ret, forK_err, forL_nil, fn_is_point_is_number, q4, q5, q1, ea, two, Bool.false_and]
    | true =>
      rw [ha] at ea
      simp only [F_is_point, cs_is_point, runF_ap, runK_ret, runK_nx, runK_err, evSs_cs, evSs_nil, nxtS_nx, nxtS_ret, nxtS_err, nxtS_brk, nxtS_cont, bs_ok, bs_err, oo_some, selS_t, selS_f, evS_pass, evS_expr, evS_set, evS_par, evS_ret, evS_retN, evS_brk, evS_cont, evS_ite, evS_jput, evS_raise, evS_try, tryK, ev_var, ev_cst, ev_bin, ev_neg, ev_not, ev_cmp, ev_chain, ev_and, ev_or, ev_ite, ev_tup, ev_lst, ev_idx, ev_slc, ev_call, ev_bi, ev_isi, evs_nil, evs_cons, evo_none, evo_some, andK_bt, andK_bf, orK_bt, orK_bf, iteK_bt, iteK_bf, rb_ok, rb_err, mb_ap, mp_ap, lift_ap, gv_z, gv_s, List.map_cons, List.map_nil, List.length_cons, List.length_nil, List.length_set, List.replicate, List.cons_append, List.nil_append, Nat.reduceAdd, Nat.reduceSub, List.set_cons_zero, List.set_cons_succ, List.getElem?_cons_succ, List.getElem?_cons_zero, Option.map_some, Option.bind_some, assignN, setAll2, setAll3, setAll_nil, bin_add, bin_sub, bin_mul, bin_fdiv, bin_mod, bin_pow, cmp_lt, cmp_le, cmp_gt, cmp_ge, cmp_eqi, cmp_nei, negD_int, tru_bl, bi_int, bi_bl, bi_abs, bi_gcd, bi_lenl, bi_lent, isInt_int, jix, idxT0, idxT1, idxL0, idxL1, decide_true, decide_false, Bool.not_true, Bool.not_false, handle, ev_comp', noErr_ap, noErrR_ok, compL_nil, compL_cons, consO_s, consO_n, compT_ap, selT_t, selT_f, evt_nil, evt_cons, selE_t, selE_f, wipeE_nil, wipeE_cons, it_t, it_l, it_e, it_z, it_r, evS_loop, evH, evS_setT, assignTT, assignTL, assigns_nil, assigns_cons, Nat.reduceLT, if_true, if_false, isN_bb', notN_bb, notN_non, isN_non, isN_int, bi_lst_t, bi_lst_l, bi_tup_l, bi_tup_t, forK_nx, forK_cont, forK_brk, forK_ret, forK_err, forL_nil, fn_is_point_is_number, q4, q5, q1, ea, eb, two, Bool.true_and]
  have long : ∀ (xs : List D) (sq : List D → D), (∀ xs, isiD (sq xs) [.bt "list", .bt "tuple"] = some true) → (∀ xs, biD .len [sq xs] = some (.int (xs.length : Nat))) → xs.length ≠ 2 → F_is_point [sq xs] st = .ok (.bl false) st := by
    intro xs sq q4 q5 hx
    have z := lenNe hx
    simp only [F_is_point, cs_is_point, runF_ap, runK_ret, runK_nx, runK_err, evSs_cs, evSs_nil, nxtS_nx, nxtS_ret, nxtS_err, nxtS_brk, nxtS_cont, bs_ok, bs_err, oo_some, selS_t, selS_f, evS_pass, evS_expr, evS_set, evS_par, evS_ret, evS_retN, evS_brk, evS_cont, evS_ite, evS_jput, evS_raise, evS_try, tryK, ev_var, ev_cst, ev_bin, ev_neg, ev_not, ev_cmp, ev_chain, ev_and, ev_or, ev_ite, ev_tup, ev_lst, ev_idx, ev_slc, ev_call, ev_bi, ev_isi, evs_nil, evs_cons, evo_none, evo_some, andK_bt, andK_bf, orK_bt, orK_bf, iteK_bt, iteK_bf, rb_ok, rb_err, mb_ap, mp_ap, lift_ap, gv_z, gv_s, List.map_cons, List.map_nil, List.length_cons, List.length_nil, List.length_set, List.replicate, List.cons_append, List.nil_append, Nat.reduceAdd, Nat.reduceSub, List.set_cons_zero, List.set_cons_succ, List.getElem?_cons_succ, List.getElem?_cons_zero, Option.map_some, Option.bind_some, assignN, setAll2, setAll3, setAll_nil, bin_add, bin_sub, bin_mul, bin_fdiv, bin_mod, bin_pow, cmp_lt, cmp_le, cmp_gt, cmp_ge, cmp_eqi, cmp_nei, negD_int, tru_bl, bi_int, bi_bl, bi_abs, bi_gcd, bi_lenl, bi_lent, isInt_int, jix, idxT0, idxT1, idxL0, idxL1, decide_true, decide_false, Bool.not_true, Bool.not_false, handle, ev_comp', noErr_ap, noErrR_ok, compL_nil, compL_cons, consO_s, consO_n, compT_ap, selT_t, selT_f, evt_nil, evt_cons, selE_t, selE_f, wipeE_nil, wipeE_cons, it_t, it_l, it_e, it_z, it_r, evS_loop, evH, evS_setT, assignTT, assignTL, assigns_nil, assigns_cons, Nat.reduceLT, if_true, if_false, isN_bb', notN_bb, notN_non, isN_non, isN_int, bi_lst_t, bi_lst_l, bi_tup_l, bi_tup_t, forK_nx, forK_cont, forK_brk, forK_ret, forK_err, forL_nil, q4, q5, z]
  have other : ∀ d : D, isiD d [.bt "list", .bt "tuple"] = some false → F_is_point [d] st = .ok (.bl false) st := by
    intro d q4
    simp only [F_is_point, cs_is_point, runF_ap, runK_ret, runK_nx, runK_err, evSs_cs, evSs_nil, nxtS_nx, nxtS_ret, nxtS_err, nxtS_brk, nxtS_cont, bs_ok, bs_err, oo_some, selS_t, selS_f, evS_pass, evS_expr, evS_set, evS_par, evS_ret, evS_retN, evS_brk, evS_cont, evS_ite, evS_jput, evS_raise, evS_try, tryK, ev_var, ev_cst, ev_bin, ev_neg, ev_not, ev_cmp, ev_chain, ev_and, ev_or, ev_ite, ev_tup, ev_lst, ev_idx, ev_slc, ev_call, ev_bi, ev_isi, evs_nil, evs_cons, evo_none, evo_some, andK_bt, andK_bf, orK_bt, orK_bf, iteK_bt, iteK_bf, rb_ok, rb_err, mb_ap, mp_ap, lift_ap, gv_z, gv_s, List.map_cons, List.map_nil, List.length_cons, List.length_nil, List.length_set, List.replicate, List.cons_append, List.nil_append, Nat.reduceAdd, Nat.reduceSub, List.set_cons_zero, List.set_cons_succ, List.getElem?_cons_succ, List.getElem?_cons_zero, Option.map_some, Option.bind_some, assignN, setAll2, setAll3, setAll_nil, bin_add, bin_sub, bin_mul, bin_fdiv, bin_mod, bin_pow, cmp_lt, cmp_le, cmp_gt, cmp_ge, cmp_eqi, cmp_nei, negD_int, tru_bl, bi_int, bi_bl, bi_abs, bi_gcd, bi_lenl, bi_lent, isInt_int, jix, idxT0, idxT1, idxL0, idxL1, decide_true, decide_false, Bool.not_true, Bool.not_false, handle, ev_comp', noErr_ap, noErrR_ok, compL_nil, compL_cons, consO_s, consO_n, compT_ap, selT_t, selT_f, evt_nil, evt_cons, selE_t, selE_f, wipeE_nil, wipeE_cons, it_t, it_l, it_e, it_z, it_r, evS_loop, evH, evS_setT, assignTT, assignTL, assigns_nil, assigns_cons, Nat.reduceLT, if_true, if_false, isN_bb', notN_bb, notN_non, isN_non, isN_int, bi_lst_t, bi_lst_l, bi_tup_l, bi_tup_t, forK_nx, forK_cont, forK_brk, forK_ret, forK_err, forL_nil, q4]
  cases d with
  | tup xs =>
    by_cases hx : xs.length = 2
    · match xs, hx with
      | [a, b], _ =>
        have hh : (ask a && ask b) = true := h
        rw [Bool.and_eq_true] at hh
        exact pair a b .tup (fun _ _ _ => rfl) (fun _ => rfl) (fun _ => rfl) hh.1 hh.2
    · rw [long xs .tup (fun _ => rfl) (fun _ => rfl) hx, isPt_longT hx]
  | lst xs =>
    by_cases hx : xs.length = 2
    · match xs, hx with
      | [a, b], _ =>
        have hh : (ask a && ask b) = true := h
        rw [Bool.and_eq_true] at hh
        exact pair a b .lst (fun xs i st => by cases i <;> rfl) (fun _ => rfl) (fun _ => rfl) hh.1 hh.2
    · rw [long xs .lst (fun _ => rfl) (fun _ => rfl) hx, isPt_longL hx]
  | int i => exact other _ rfl
  | non => exact other _ rfl
  | bl b => exact other _ rfl
  | str x => exact other _ rfl
  | dic => exact other _ rfl
  | _ => cases h
theorem PtR.is {d : D} {a b : Int × Int} (x : PtR d a b) : isPt d = true ∧ askP d = true := by
  obtain ⟨u, v, h | h, hu, hv⟩ := x.ex <;> subst h <;> exact ⟨by show (isN u && isN v) = true; rw [hu.h, hv.h]; rfl, by show (ask u && ask v) = true; rw [isN_ask hu.h, isN_ask hv.h]; rfl⟩
theorem s_is_point {d : D} {a b : Int × Int} [x : PtR d a b] : F_is_point [d] st = .ok (.bl true) st := by rw [o_is_point x.is.2, x.is.1]
theorem n_is_point {d : D} [x : NoP d] : F_is_point [d] st = .ok (.bl false) st := by rw [o_is_point x.k, x.h]
theorem s_as_point {d : D} {a b : Int × Int} [x : PtR d a b] : F_as_point [d] st = .ok (.tup [dP a, dP b]) st := by
  obtain ⟨u, v, h | h, hu, hv⟩ := x.ex <;> subst h <;> simp only [F_as_point, cs_as_point, runF_ap, runK_ret, runK_nx, runK_err, evSs_cs, evSs_nil, nxtS_nx, nxtS_ret, nxtS_err, nxtS_brk, nxtS_cont, bs_ok, bs_err, oo_some, selS_t, selS_f, evS_pass, evS_expr, evS_set, evS_par, evS_ret, evS_retN, evS_brk, evS_cont, evS_ite, evS_jput, evS_raise, evS_try, tryK, ev_var, ev_cst, ev_bin, ev_neg, ev_not, ev_cmp, ev_chain, ev_and, ev_or, ev_ite, ev_tup, ev_lst, ev_idx, ev_slc, ev_call, ev_bi, ev_isi, evs_nil, evs_cons, evo_none, evo_some, andK_bt, andK_bf, orK_bt, orK_bf, iteK_bt, iteK_bf, rb_ok, rb_err, mb_ap, mp_ap, lift_ap, gv_z, gv_s, List.map_cons, List.map_nil, List.length_cons, List.length_nil, List.length_set, List.replicate, List.cons_append, List.nil_append, Nat.reduceAdd, Nat.reduceSub, List.set_cons_zero, List.set_cons_succ, List.getElem?_cons_succ, List.getElem?_cons_zero, Option.map_some, Option.bind_some, assignN, setAll2, setAll3, setAll_nil, bin_add, bin_sub, bin_mul, bin_fdiv, bin_mod, bin_pow, cmp_lt, cmp_le, cmp_gt, cmp_ge, cmp_eqi, cmp_nei, negD_int, tru_bl, bi_int, bi_bl, bi_abs, bi_gcd, bi_lenl, bi_lent, isInt_int, jix, idxT0, idxT1, idxL0, idxL1, decide_true, decide_false, Bool.not_true, Bool.not_false, handle, ev_comp', noErr_ap, noErrR_ok, compL_nil, compL_cons, consO_s, consO_n, compT_ap, selT_t, selT_f, evt_nil, evt_cons, selE_t, selE_f, wipeE_nil, wipeE_cons, it_t, it_l, it_e, it_z, it_r, evS_loop, evH, evS_setT, assignTT, assignTL, assigns_nil, assigns_cons, Nat.reduceLT, if_true, if_false, isN_bb', notN_bb, notN_non, isN_non, isN_int, bi_lst_t, bi_lst_l, bi_tup_l, bi_tup_t, forK_nx, forK_cont, forK_brk, forK_ret, forK_err, forL_nil, fn_as_point_as_number, s_as_number]
def badP (part : D) : Ex := ⟨"BadPoint", [("part", part)]⟩
theorem s_checked_point {d p : D} {a b : Int × Int} [x : PtR d a b] : F_checked_point [d, p] st = .ok (.tup [dP a, dP b]) st := by
  simp only [F_checked_point, cs_checked_point, runF_ap, runK_ret, runK_nx, runK_err, evSs_cs, evSs_nil, nxtS_nx, nxtS_ret, nxtS_err, nxtS_brk, nxtS_cont, bs_ok, bs_err, oo_some, selS_t, selS_f, evS_pass, evS_expr, evS_set, evS_par, evS_ret, evS_retN, evS_brk, evS_cont, evS_ite, evS_jput, evS_raise, evS_try, tryK, ev_var, ev_cst, ev_bin, ev_neg, ev_not, ev_cmp, ev_chain, ev_and, ev_or, ev_ite, ev_tup, ev_lst, ev_idx, ev_slc, ev_call, ev_bi, ev_isi, evs_nil, evs_cons, evo_none, evo_some, andK_bt, andK_bf, orK_bt, orK_bf, iteK_bt, iteK_bf, rb_ok, rb_err, mb_ap, mp_ap, lift_ap, gv_z, gv_s, List.map_cons, List.map_nil, List.length_cons, List.length_nil, List.length_set, List.replicate, List.cons_append, List.nil_append, Nat.reduceAdd, Nat.reduceSub, List.set_cons_zero, List.set_cons_succ, List.getElem?_cons_succ, List.getElem?_cons_zero, Option.map_some, Option.bind_some, assignN, setAll2, setAll3, setAll_nil, bin_add, bin_sub, bin_mul, bin_fdiv, bin_mod, bin_pow, cmp_lt, cmp_le, cmp_gt, cmp_ge, cmp_eqi, cmp_nei, negD_int, tru_bl, bi_int, bi_bl, bi_abs, bi_gcd, bi_lenl, bi_lent, isInt_int, jix, idxT0, idxT1, idxL0, idxL1, decide_true, decide_false, Bool.not_true, Bool.not_false, handle, ev_comp', noErr_ap, noErrR_ok, compL_nil, compL_cons, consO_s, consO_n, compT_ap, selT_t, selT_f, evt_nil, evt_cons, selE_t, selE_f, wipeE_nil, wipeE_cons, it_t, it_l, it_e, it_z, it_r, evS_loop, evH, evS_setT, assignTT, assignTL, assigns_nil, assigns_cons, Nat.reduceLT, if_true, if_false, isN_bb', notN_bb, notN_non, isN_non, isN_int, bi_lst_t, bi_lst_l, bi_tup_l, bi_tup_t, forK_nx, forK_cont, forK_brk, forK_ret, forK_err, forL_nil, fn_checked_point_is_point, fn_checked_point_as_point, s_is_point, s_as_point]
theorem n_checked_point {d p : D} [x : NoP d] : F_checked_point [d, p] st = .err (badP p) st := by
  simp only [F_checked_point, cs_checked_point, runF_ap, runK_ret, runK_nx, runK_err, evSs_cs, evSs_nil, nxtS_nx, nxtS_ret, nxtS_err, nxtS_brk, nxtS_cont, bs_ok, bs_err, oo_some, selS_t, selS_f, evS_pass, evS_expr, evS_set, evS_par, evS_ret, evS_retN, evS_brk, evS_cont, evS_ite, evS_jput, evS_raise, evS_try, tryK, ev_var, ev_cst, ev_bin, ev_neg, ev_not, ev_cmp, ev_chain, ev_and, ev_or, ev_ite, ev_tup, ev_lst, ev_idx, ev_slc, ev_call, ev_bi, ev_isi, evs_nil, evs_cons, evo_none, evo_some, andK_bt, andK_bf, orK_bt, orK_bf, iteK_bt, iteK_bf, rb_ok, rb_err, mb_ap, mp_ap, lift_ap, gv_z, gv_s, List.map_cons, List.map_nil, List.length_cons, List.length_nil, List.length_set, List.replicate, List.cons_append, List.nil_append, Nat.reduceAdd, Nat.reduceSub, List.set_cons_zero, List.set_cons_succ, List.getElem?_cons_succ, List.getElem?_cons_zero, Option.map_some, Option.bind_some, assignN, setAll2, setAll3, setAll_nil, bin_add, bin_sub, bin_mul, bin_fdiv, bin_mod, bin_pow, cmp_lt, cmp_le, cmp_gt, cmp_ge, cmp_eqi, cmp_nei, negD_int, tru_bl, bi_int, bi_bl, bi_abs, bi_gcd, bi_lenl, bi_lent, isInt_int, jix, idxT0, idxT1, idxL0, idxL1, decide_true, decide_false, Bool.not_true, Bool.not_false, handle, ev_comp', noErr_ap, noErrR_ok, compL_nil, compL_cons, consO_s, consO_n, compT_ap, selT_t, selT_f, evt_nil, evt_cons, selE_t, selE_f, wipeE_nil, wipeE_cons, it_t, it_l, it_e, it_z, it_r, evS_loop, evH, evS_setT, assignTT, assignTL, assigns_nil, assigns_cons, Nat.reduceLT, if_true, if_false, isN_bb', notN_bb, notN_non, isN_non, isN_int, bi_lst_t, bi_lst_l, bi_tup_l, bi_tup_t, forK_nx, forK_cont, forK_brk, forK_ret, forK_err, forL_nil, fn_checked_point_is_point, n_is_point, gx_checked_point_BadPoint, xf1, badP]
end
section
variable {x y : D} {a b c d s : Int × Int} {st : S} {k1 l1 k2 l2 k3 l3 k4 l4 k5 l5 : Nat}
theorem s_sum_points [FB a k1 l1] [FB b k2 l2] [FB c k3 l3] [FB d k4 l4] (h1 : b4 k1 l1 k3 l3 = true) (h2 : b4 k2 l2 k4 l4 = true) : F_sum_points [.tup [dP a, dP b], .tup [dP c, dP d]] st = .ok (.tup [dP (addF a c), dP (addF b d)]) st := by
  simp (decide := true) only [F_sum_points, cs_sum_points, runF_ap, runK_ret, runK_nx, runK_err, evSs_cs, evSs_nil, nxtS_nx, nxtS_ret, nxtS_err, nxtS_brk, nxtS_cont, bs_ok, bs_err, oo_some, selS_t, selS_f, evS_pass, evS_expr, evS_set, evS_par, evS_ret, evS_retN, evS_brk, evS_cont, evS_ite, evS_jput, evS_raise, evS_try, tryK, ev_var, ev_cst, ev_bin, ev_neg, ev_not, ev_cmp, ev_chain, ev_and, ev_or, ev_ite, ev_tup, ev_lst, ev_idx, ev_slc, ev_call, ev_bi, ev_isi, evs_nil, evs_cons, evo_none, evo_some, andK_bt, andK_bf, orK_bt, orK_bf, iteK_bt, iteK_bf, rb_ok, rb_err, mb_ap, mp_ap, lift_ap, gv_z, gv_s, List.map_cons, List.map_nil, List.length_cons, List.length_nil, List.length_set, List.replicate, List.cons_append, List.nil_append, Nat.reduceAdd, Nat.reduceSub, List.set_cons_zero, List.set_cons_succ, List.getElem?_cons_succ, List.getElem?_cons_zero, Option.map_some, Option.bind_some, assignN, setAll2, setAll3, setAll_nil, bin_add, bin_sub, bin_mul, bin_fdiv, bin_mod, bin_pow, cmp_lt, cmp_le, cmp_gt, cmp_ge, cmp_eqi, cmp_nei, negD_int, tru_bl, bi_int, bi_bl, bi_abs, bi_gcd, bi_lenl, bi_lent, isInt_int, jix, idxT0, idxT1, idxL0, idxL1, decide_true, decide_false, Bool.not_true, Bool.not_false, handle, ev_comp', noErr_ap, noErrR_ok, compL_nil, compL_cons, consO_s, consO_n, compT_ap, selT_t, selT_f, evt_nil, evt_cons, selE_t, selE_f, wipeE_nil, wipeE_cons, it_t, it_l, it_e, it_z, it_r, evS_loop, evH, evS_setT, assignTT, assignTL, assigns_nil, assigns_cons, Nat.reduceLT, if_true, if_false, isN_bb', notN_bb, notN_non, isN_non, isN_int, bi_lst_t, bi_lst_l, bi_tup_l, bi_tup_t, forK_nx, forK_cont, forK_brk, forK_ret, forK_err, forL_nil, fn_sum_points_sum_of, s_sum_of, h1, h2]
theorem s_rest_points [FB a k1 l1] [FB b k2 l2] [FB c k3 l3] [FB d k4 l4] (h1 : b4 k1 l1 k3 l3 = true) (h2 : b4 k2 l2 k4 l4 = true) : F_rest_points [.tup [dP a, dP b], .tup [dP c, dP d]] st = .ok (.tup [dP (subF a c), dP (subF b d)]) st := by
  simp (decide := true) only [F_rest_points, cs_rest_points, runF_ap, runK_ret, runK_nx, runK_err, evSs_cs, evSs_nil, nxtS_nx, nxtS_ret, nxtS_err, nxtS_brk, nxtS_cont, bs_ok, bs_err, oo_some, selS_t, selS_f, evS_pass, evS_expr, evS_set, evS_par, evS_ret, evS_retN, evS_brk, evS_cont, evS_ite, evS_jput, evS_raise, evS_try, tryK, ev_var, ev_cst, ev_bin, ev_neg, ev_not, ev_cmp, ev_chain, ev_and, ev_or, ev_ite, ev_tup, ev_lst, ev_idx, ev_slc, ev_call, ev_bi, ev_isi, evs_nil, evs_cons, evo_none, evo_some, andK_bt, andK_bf, orK_bt, orK_bf, iteK_bt, iteK_bf, rb_ok, rb_err, mb_ap, mp_ap, lift_ap, gv_z, gv_s, List.map_cons, List.map_nil, List.length_cons, List.length_nil, List.length_set, List.replicate, List.cons_append, List.nil_append, Nat.reduceAdd, Nat.reduceSub, List.set_cons_zero, List.set_cons_succ, List.getElem?_cons_succ, List.getElem?_cons_zero, Option.map_some, Option.bind_some, assignN, setAll2, setAll3, setAll_nil, bin_add, bin_sub, bin_mul, bin_fdiv, bin_mod, bin_pow, cmp_lt, cmp_le, cmp_gt, cmp_ge, cmp_eqi, cmp_nei, negD_int, tru_bl, bi_int, bi_bl, bi_abs, bi_gcd, bi_lenl, bi_lent, isInt_int, jix, idxT0, idxT1, idxL0, idxL1, decide_true, decide_false, Bool.not_true, Bool.not_false, handle, ev_comp', noErr_ap, noErrR_ok, compL_nil, compL_cons, consO_s, consO_n, compT_ap, selT_t, selT_f, evt_nil, evt_cons, selE_t, selE_f, wipeE_nil, wipeE_cons, it_t, it_l, it_e, it_z, it_r, evS_loop, evH, evS_setT, assignTT, assignTL, assigns_nil, assigns_cons, Nat.reduceLT, if_true, if_false, isN_bb', notN_bb, notN_non, isN_non, isN_int, bi_lst_t, bi_lst_l, bi_tup_l, bi_tup_t, forK_nx, forK_cont, forK_brk, forK_ret, forK_err, forL_nil, fn_rest_points_rest_of, s_rest_of, h1, h2]
theorem s_times_point [FB a k1 l1] [FB b k2 l2] [FB c k3 l3] (h1 : b4 k1 l1 k3 l3 = true) (h2 : b4 k2 l2 k3 l3 = true) : F_times_point [.tup [dP a, dP b], dP c] st = .ok (.tup [dP (mulF a c), dP (mulF b c)]) st := by
  simp (decide := true) only [F_times_point, cs_times_point, runF_ap, runK_ret, runK_nx, runK_err, evSs_cs, evSs_nil, nxtS_nx, nxtS_ret, nxtS_err, nxtS_brk, nxtS_cont, bs_ok, bs_err, oo_some, selS_t, selS_f, evS_pass, evS_expr, evS_set, evS_par, evS_ret, evS_retN, evS_brk, evS_cont, evS_ite, evS_jput, evS_raise, evS_try, tryK, ev_var, ev_cst, ev_bin, ev_neg, ev_not, ev_cmp, ev_chain, ev_and, ev_or, ev_ite, ev_tup, ev_lst, ev_idx, ev_slc, ev_call, ev_bi, ev_isi, evs_nil, evs_cons, evo_none, evo_some, andK_bt, andK_bf, orK_bt, orK_bf, iteK_bt, iteK_bf, rb_ok, rb_err, mb_ap, mp_ap, lift_ap, gv_z, gv_s, List.map_cons, List.map_nil, List.length_cons, List.length_nil, List.length_set, List.replicate, List.cons_append, List.nil_append, Nat.reduceAdd, Nat.reduceSub, List.set_cons_zero, List.set_cons_succ, List.getElem?_cons_succ, List.getElem?_cons_zero, Option.map_some, Option.bind_some, assignN, setAll2, setAll3, setAll_nil, bin_add, bin_sub, bin_mul, bin_fdiv, bin_mod, bin_pow, cmp_lt, cmp_le, cmp_gt, cmp_ge, cmp_eqi, cmp_nei, negD_int, tru_bl, bi_int, bi_bl, bi_abs, bi_gcd, bi_lenl, bi_lent, isInt_int, jix, idxT0, idxT1, idxL0, idxL1, decide_true, decide_false, Bool.not_true, Bool.not_false, handle, ev_comp', noErr_ap, noErrR_ok, compL_nil, compL_cons, consO_s, consO_n, compT_ap, selT_t, selT_f, evt_nil, evt_cons, selE_t, selE_f, wipeE_nil, wipeE_cons, it_t, it_l, it_e, it_z, it_r, evS_loop, evH, evS_setT, assignTT, assignTL, assigns_nil, assigns_cons, Nat.reduceLT, if_true, if_false, isN_bb', notN_bb, notN_non, isN_non, isN_int, bi_lst_t, bi_lst_l, bi_tup_l, bi_tup_t, forK_nx, forK_cont, forK_brk, forK_ret, forK_err, forL_nil, fn_times_point_product_of, s_product_of, h1, h2]
end
end LK
/-! What the package's defs of points tell -/
namespace LK
open PySem DE
section
variable {x y w : D} {a b c d s : Int × Int} {st : S} {k1 l1 k2 l2 k3 l3 k4 l4 k5 l5 : Nat}
theorem s_cross_of [FB a k1 l1] [FB b k2 l2] [FB c k3 l3] [FB d k4 l4] (h1 : b4 k1 l1 k4 l4 = true) (h2 : b4 k2 l2 k3 l3 = true) (h3 : b4 (k1 + k4) (l1 + l4) (k2 + k3) (l2 + l3) = true) :
    F_cross_of [.tup [dP a, dP b], .tup [dP c, dP d]] st = .ok (dP (subF (mulF a d) (mulF b c))) st := by
  simp (decide := true) only [F_cross_of, cs_cross_of, runF_ap, runK_ret, runK_nx, runK_err, evSs_cs, evSs_nil, nxtS_nx, nxtS_ret, nxtS_err, nxtS_brk, nxtS_cont, bs_ok, bs_err, oo_some, selS_t, selS_f, evS_pass, evS_expr, evS_set, evS_par, evS_ret, evS_retN, evS_brk, evS_cont, evS_ite, evS_jput, evS_raise, evS_try, tryK, ev_var, ev_cst, ev_bin, ev_neg, ev_not, ev_cmp, ev_chain, ev_and, ev_or, ev_ite, ev_tup, ev_lst, ev_idx, ev_slc, ev_call, ev_bi, ev_isi, evs_nil, evs_cons, evo_none, evo_some, andK_bt, andK_bf, orK_bt, orK_bf, iteK_bt, iteK_bf, rb_ok, rb_err, mb_ap, mp_ap, lift_ap, gv_z, gv_s, List.map_cons, List.map_nil, List.length_cons, List.length_nil, List.length_set, List.replicate, List.cons_append, List.nil_append, Nat.reduceAdd, Nat.reduceSub, List.set_cons_zero, List.set_cons_succ, List.getElem?_cons_succ, List.getElem?_cons_zero, Option.map_some, Option.bind_some, assignN, setAll2, setAll3, setAll_nil, bin_add, bin_sub, bin_mul, bin_fdiv, bin_mod, bin_pow, cmp_lt, cmp_le, cmp_gt, cmp_ge, cmp_eqi, cmp_nei, negD_int, tru_bl, bi_int, bi_bl, bi_abs, bi_gcd, bi_lenl, bi_lent, isInt_int, jix, idxT0, idxT1, idxL0, idxL1, decide_true, decide_false, Bool.not_true, Bool.not_false, handle, ev_comp', noErr_ap, noErrR_ok, compL_nil, compL_cons, consO_s, consO_n, compT_ap, selT_t, selT_f, evt_nil, evt_cons, selE_t, selE_f, wipeE_nil, wipeE_cons, it_t, it_l, it_e, it_z, it_r, evS_loop, evH, evS_setT, assignTT, assignTL, assigns_nil, assigns_cons, Nat.reduceLT, if_true, if_false, isN_bb', notN_bb, notN_non, isN_non, isN_int, bi_lst_t, bi_lst_l, bi_tup_l, bi_tup_t, forK_nx, forK_cont, forK_brk, forK_ret, forK_err, forL_nil, fn_cross_of_product_of, fn_cross_of_rest_of, s_product_of, s_rest_of, h1, h2, h3]
theorem s_dot_of [FB a k1 l1] [FB b k2 l2] [FB c k3 l3] [FB d k4 l4] (h1 : b4 k1 l1 k3 l3 = true) (h2 : b4 k2 l2 k4 l4 = true) (h3 : b4 (k1 + k3) (l1 + l3) (k2 + k4) (l2 + l4) = true) :
    F_dot_of [.tup [dP a, dP b], .tup [dP c, dP d]] st = .ok (dP (addF (mulF a c) (mulF b d))) st := by
  simp (decide := true) only [F_dot_of, cs_dot_of, runF_ap, runK_ret, runK_nx, runK_err, evSs_cs, evSs_nil, nxtS_nx, nxtS_ret, nxtS_err, nxtS_brk, nxtS_cont, bs_ok, bs_err, oo_some, selS_t, selS_f, evS_pass, evS_expr, evS_set, evS_par, evS_ret, evS_retN, evS_brk, evS_cont, evS_ite, evS_jput, evS_raise, evS_try, tryK, ev_var, ev_cst, ev_bin, ev_neg, ev_not, ev_cmp, ev_chain, ev_and, ev_or, ev_ite, ev_tup, ev_lst, ev_idx, ev_slc, ev_call, ev_bi, ev_isi, evs_nil, evs_cons, evo_none, evo_some, andK_bt, andK_bf, orK_bt, orK_bf, iteK_bt, iteK_bf, rb_ok, rb_err, mb_ap, mp_ap, lift_ap, gv_z, gv_s, List.map_cons, List.map_nil, List.length_cons, List.length_nil, List.length_set, List.replicate, List.cons_append, List.nil_append, Nat.reduceAdd, Nat.reduceSub, List.set_cons_zero, List.set_cons_succ, List.getElem?_cons_succ, List.getElem?_cons_zero, Option.map_some, Option.bind_some, assignN, setAll2, setAll3, setAll_nil, bin_add, bin_sub, bin_mul, bin_fdiv, bin_mod, bin_pow, cmp_lt, cmp_le, cmp_gt, cmp_ge, cmp_eqi, cmp_nei, negD_int, tru_bl, bi_int, bi_bl, bi_abs, bi_gcd, bi_lenl, bi_lent, isInt_int, jix, idxT0, idxT1, idxL0, idxL1, decide_true, decide_false, Bool.not_true, Bool.not_false, handle, ev_comp', noErr_ap, noErrR_ok, compL_nil, compL_cons, consO_s, consO_n, compT_ap, selT_t, selT_f, evt_nil, evt_cons, selE_t, selE_f, wipeE_nil, wipeE_cons, it_t, it_l, it_e, it_z, it_r, evS_loop, evH, evS_setT, assignTT, assignTL, assigns_nil, assigns_cons, Nat.reduceLT, if_true, if_false, isN_bb', notN_bb, notN_non, isN_non, isN_int, bi_lst_t, bi_lst_l, bi_tup_l, bi_tup_t, forK_nx, forK_cont, forK_brk, forK_ret, forK_err, forL_nil, fn_dot_of_product_of, fn_dot_of_sum_of, s_product_of, s_sum_of, h1, h2, h3]
theorem s_turned_point [FB a k1 l1] [FB b k2 l2] : F_turned_point [.tup [dP a, dP b]] st = .ok (.tup [.tup [.int (-b.1), .int b.2], dP a]) st := by
  simp (decide := true) only [F_turned_point, cs_turned_point, runF_ap, runK_ret, runK_nx, runK_err, evSs_cs, evSs_nil, nxtS_nx, nxtS_ret, nxtS_err, nxtS_brk, nxtS_cont, bs_ok, bs_err, oo_some, selS_t, selS_f, evS_pass, evS_expr, evS_set, evS_par, evS_ret, evS_retN, evS_brk, evS_cont, evS_ite, evS_jput, evS_raise, evS_try, tryK, ev_var, ev_cst, ev_bin, ev_neg, ev_not, ev_cmp, ev_chain, ev_and, ev_or, ev_ite, ev_tup, ev_lst, ev_idx, ev_slc, ev_call, ev_bi, ev_isi, evs_nil, evs_cons, evo_none, evo_some, andK_bt, andK_bf, orK_bt, orK_bf, iteK_bt, iteK_bf, rb_ok, rb_err, mb_ap, mp_ap, lift_ap, gv_z, gv_s, List.map_cons, List.map_nil, List.length_cons, List.length_nil, List.length_set, List.replicate, List.cons_append, List.nil_append, Nat.reduceAdd, Nat.reduceSub, List.set_cons_zero, List.set_cons_succ, List.getElem?_cons_succ, List.getElem?_cons_zero, Option.map_some, Option.bind_some, assignN, setAll2, setAll3, setAll_nil, bin_add, bin_sub, bin_mul, bin_fdiv, bin_mod, bin_pow, cmp_lt, cmp_le, cmp_gt, cmp_ge, cmp_eqi, cmp_nei, negD_int, tru_bl, bi_int, bi_bl, bi_abs, bi_gcd, bi_lenl, bi_lent, isInt_int, jix, idxT0, idxT1, idxL0, idxL1, decide_true, decide_false, Bool.not_true, Bool.not_false, handle, ev_comp', noErr_ap, noErrR_ok, compL_nil, compL_cons, consO_s, consO_n, compT_ap, selT_t, selT_f, evt_nil, evt_cons, selE_t, selE_f, wipeE_nil, wipeE_cons, it_t, it_l, it_e, it_z, it_r, evS_loop, evH, evS_setT, assignTT, assignTL, assigns_nil, assigns_cons, Nat.reduceLT, if_true, if_false, isN_bb', notN_bb, notN_non, isN_non, isN_int, bi_lst_t, bi_lst_l, bi_tup_l, bi_tup_t, forK_nx, forK_cont, forK_brk, forK_ret, forK_err, forL_nil, negF]
theorem s_added [PtR x a b] [PtR y c d] [FB a k1 l1] [FB b k2 l2] [FB c k3 l3] [FB d k4 l4] (h1 : b4 k1 l1 k3 l3 = true) (h2 : b4 k2 l2 k4 l4 = true) : F_added [x, y] st = .ok (.tup [dP (addF a c), dP (addF b d)]) st := by
  simp (decide := true) only [F_added, cs_added, runF_ap, runK_ret, runK_nx, runK_err, evSs_cs, evSs_nil, nxtS_nx, nxtS_ret, nxtS_err, nxtS_brk, nxtS_cont, bs_ok, bs_err, oo_some, selS_t, selS_f, evS_pass, evS_expr, evS_set, evS_par, evS_ret, evS_retN, evS_brk, evS_cont, evS_ite, evS_jput, evS_raise, evS_try, tryK, ev_var, ev_cst, ev_bin, ev_neg, ev_not, ev_cmp, ev_chain, ev_and, ev_or, ev_ite, ev_tup, ev_lst, ev_idx, ev_slc, ev_call, ev_bi, ev_isi, evs_nil, evs_cons, evo_none, evo_some, andK_bt, andK_bf, orK_bt, orK_bf, iteK_bt, iteK_bf, rb_ok, rb_err, mb_ap, mp_ap, lift_ap, gv_z, gv_s, List.map_cons, List.map_nil, List.length_cons, List.length_nil, List.length_set, List.replicate, List.cons_append, List.nil_append, Nat.reduceAdd, Nat.reduceSub, List.set_cons_zero, List.set_cons_succ, List.getElem?_cons_succ, List.getElem?_cons_zero, Option.map_some, Option.bind_some, assignN, setAll2, setAll3, setAll_nil, bin_add, bin_sub, bin_mul, bin_fdiv, bin_mod, bin_pow, cmp_lt, cmp_le, cmp_gt, cmp_ge, cmp_eqi, cmp_nei, negD_int, tru_bl, bi_int, bi_bl, bi_abs, bi_gcd, bi_lenl, bi_lent, isInt_int, jix, idxT0, idxT1, idxL0, idxL1, decide_true, decide_false, Bool.not_true, Bool.not_false, handle, ev_comp', noErr_ap, noErrR_ok, compL_nil, compL_cons, consO_s, consO_n, compT_ap, selT_t, selT_f, evt_nil, evt_cons, selE_t, selE_f, wipeE_nil, wipeE_cons, it_t, it_l, it_e, it_z, it_r, evS_loop, evH, evS_setT, assignTT, assignTL, assigns_nil, assigns_cons, Nat.reduceLT, if_true, if_false, isN_bb', notN_bb, notN_non, isN_non, isN_int, bi_lst_t, bi_lst_l, bi_tup_l, bi_tup_t, forK_nx, forK_cont, forK_brk, forK_ret, forK_err, forL_nil, fn_added_checked_point, fn_added_sum_points, s_checked_point, s_sum_points, h1, h2]
theorem s_taken [PtR x a b] [PtR y c d] [FB a k1 l1] [FB b k2 l2] [FB c k3 l3] [FB d k4 l4] (h1 : b4 k1 l1 k3 l3 = true) (h2 : b4 k2 l2 k4 l4 = true) : F_taken [x, y] st = .ok (.tup [dP (subF a c), dP (subF b d)]) st := by
  simp (decide := true) only [F_taken, cs_taken, runF_ap, runK_ret, runK_nx, runK_err, evSs_cs, evSs_nil, nxtS_nx, nxtS_ret, nxtS_err, nxtS_brk, nxtS_cont, bs_ok, bs_err, oo_some, selS_t, selS_f, evS_pass, evS_expr, evS_set, evS_par, evS_ret, evS_retN, evS_brk, evS_cont, evS_ite, evS_jput, evS_raise, evS_try, tryK, ev_var, ev_cst, ev_bin, ev_neg, ev_not, ev_cmp, ev_chain, ev_and, ev_or, ev_ite, ev_tup, ev_lst, ev_idx, ev_slc, ev_call, ev_bi, ev_isi, evs_nil, evs_cons, evo_none, evo_some, andK_bt, andK_bf, orK_bt, orK_bf, iteK_bt, iteK_bf, rb_ok, rb_err, mb_ap, mp_ap, lift_ap, gv_z, gv_s, List.map_cons, List.map_nil, List.length_cons, List.length_nil, List.length_set, List.replicate, List.cons_append, List.nil_append, Nat.reduceAdd, Nat.reduceSub, List.set_cons_zero, List.set_cons_succ, List.getElem?_cons_succ, List.getElem?_cons_zero, Option.map_some, Option.bind_some, assignN, setAll2, setAll3, setAll_nil, bin_add, bin_sub, bin_mul, bin_fdiv, bin_mod, bin_pow, cmp_lt, cmp_le, cmp_gt, cmp_ge, cmp_eqi, cmp_nei, negD_int, tru_bl, bi_int, bi_bl, bi_abs, bi_gcd, bi_lenl, bi_lent, isInt_int, jix, idxT0, idxT1, idxL0, idxL1, decide_true, decide_false, Bool.not_true, Bool.not_false, handle, ev_comp', noErr_ap, noErrR_ok, compL_nil, compL_cons, consO_s, consO_n, compT_ap, selT_t, selT_f, evt_nil, evt_cons, selE_t, selE_f, wipeE_nil, wipeE_cons, it_t, it_l, it_e, it_z, it_r, evS_loop, evH, evS_setT, assignTT, assignTL, assigns_nil, assigns_cons, Nat.reduceLT, if_true, if_false, isN_bb', notN_bb, notN_non, isN_non, isN_int, bi_lst_t, bi_lst_l, bi_tup_l, bi_tup_t, forK_nx, forK_cont, forK_brk, forK_ret, forK_err, forL_nil, fn_taken_checked_point, fn_taken_rest_points, s_checked_point, s_rest_points, h1, h2]
theorem s_cross [PtR x a b] [PtR y c d] [FB a k1 l1] [FB b k2 l2] [FB c k3 l3] [FB d k4 l4] (h1 : b4 k1 l1 k4 l4 = true) (h2 : b4 k2 l2 k3 l3 = true) (h3 : b4 (k1 + k4) (l1 + l4) (k2 + k3) (l2 + l3) = true) : F_cross [x, y] st = .ok (dP (subF (mulF a d) (mulF b c))) st := by
  simp (decide := true) only [F_cross, cs_cross, runF_ap, runK_ret, runK_nx, runK_err, evSs_cs, evSs_nil, nxtS_nx, nxtS_ret, nxtS_err, nxtS_brk, nxtS_cont, bs_ok, bs_err, oo_some, selS_t, selS_f, evS_pass, evS_expr, evS_set, evS_par, evS_ret, evS_retN, evS_brk, evS_cont, evS_ite, evS_jput, evS_raise, evS_try, tryK, ev_var, ev_cst, ev_bin, ev_neg, ev_not, ev_cmp, ev_chain, ev_and, ev_or, ev_ite, ev_tup, ev_lst, ev_idx, ev_slc, ev_call, ev_bi, ev_isi, evs_nil, evs_cons, evo_none, evo_some, andK_bt, andK_bf, orK_bt, orK_bf, iteK_bt, iteK_bf, rb_ok, rb_err, mb_ap, mp_ap, lift_ap, gv_z, gv_s, List.map_cons, List.map_nil, List.length_cons, List.length_nil, List.length_set, List.replicate, List.cons_append, List.nil_append, Nat.reduceAdd, Nat.reduceSub, List.set_cons_zero, List.set_cons_succ, List.getElem?_cons_succ, List.getElem?_cons_zero, Option.map_some, Option.bind_some, assignN, setAll2, setAll3, setAll_nil, bin_add, bin_sub, bin_mul, bin_fdiv, bin_mod, bin_pow, cmp_lt, cmp_le, cmp_gt, cmp_ge, cmp_eqi, cmp_nei, negD_int, tru_bl, bi_int, bi_bl, bi_abs, bi_gcd, bi_lenl, bi_lent, isInt_int, jix, idxT0, idxT1, idxL0, idxL1, decide_true, decide_false, Bool.not_true, Bool.not_false, handle, ev_comp', noErr_ap, noErrR_ok, compL_nil, compL_cons, consO_s, consO_n, compT_ap, selT_t, selT_f, evt_nil, evt_cons, selE_t, selE_f, wipeE_nil, wipeE_cons, it_t, it_l, it_e, it_z, it_r, evS_loop, evH, evS_setT, assignTT, assignTL, assigns_nil, assigns_cons, Nat.reduceLT, if_true, if_false, isN_bb', notN_bb, notN_non, isN_non, isN_int, bi_lst_t, bi_lst_l, bi_tup_l, bi_tup_t, forK_nx, forK_cont, forK_brk, forK_ret, forK_err, forL_nil, fn_cross_checked_point, fn_cross_cross_of, s_checked_point, s_cross_of, h1, h2, h3]
theorem s_dot [PtR x a b] [PtR y c d] [FB a k1 l1] [FB b k2 l2] [FB c k3 l3] [FB d k4 l4] (h1 : b4 k1 l1 k3 l3 = true) (h2 : b4 k2 l2 k4 l4 = true) (h3 : b4 (k1 + k3) (l1 + l3) (k2 + k4) (l2 + l4) = true) : F_dot [x, y] st = .ok (dP (addF (mulF a c) (mulF b d))) st := by
  simp (decide := true) only [F_dot, cs_dot, runF_ap, runK_ret, runK_nx, runK_err, evSs_cs, evSs_nil, nxtS_nx, nxtS_ret, nxtS_err, nxtS_brk, nxtS_cont, bs_ok, bs_err, oo_some, selS_t, selS_f, evS_pass, evS_expr, evS_set, evS_par, evS_ret, evS_retN, evS_brk, evS_cont, evS_ite, evS_jput, evS_raise, evS_try, tryK, ev_var, ev_cst, ev_bin, ev_neg, ev_not, ev_cmp, ev_chain, ev_and, ev_or, ev_ite, ev_tup, ev_lst, ev_idx, ev_slc, ev_call, ev_bi, ev_isi, evs_nil, evs_cons, evo_none, evo_some, andK_bt, andK_bf, orK_bt, orK_bf, iteK_bt, iteK_bf, rb_ok, rb_err, mb_ap, mp_ap, lift_ap, gv_z, gv_s, List.map_cons, List.map_nil, List.length_cons, List.length_nil, List.length_set, List.replicate, List.cons_append, List.nil_append, Nat.reduceAdd, Nat.reduceSub, List.set_cons_zero, List.set_cons_succ, List.getElem?_cons_succ, List.getElem?_cons_zero, Option.map_some, Option.bind_some, assignN, setAll2, setAll3, setAll_nil, bin_add, bin_sub, bin_mul, bin_fdiv, bin_mod, bin_pow, cmp_lt, cmp_le, cmp_gt, cmp_ge, cmp_eqi, cmp_nei, negD_int, tru_bl, bi_int, bi_bl, bi_abs, bi_gcd, bi_lenl, bi_lent, isInt_int, jix, idxT0, idxT1, idxL0, idxL1, decide_true, decide_false, Bool.not_true, Bool.not_false, handle, ev_comp', noErr_ap, noErrR_ok, compL_nil, compL_cons, consO_s, consO_n, compT_ap, selT_t, selT_f, evt_nil, evt_cons, selE_t, selE_f, wipeE_nil, wipeE_cons, it_t, it_l, it_e, it_z, it_r, evS_loop, evH, evS_setT, assignTT, assignTL, assigns_nil, assigns_cons, Nat.reduceLT, if_true, if_false, isN_bb', notN_bb, notN_non, isN_non, isN_int, bi_lst_t, bi_lst_l, bi_tup_l, bi_tup_t, forK_nx, forK_cont, forK_brk, forK_ret, forK_err, forL_nil, fn_dot_checked_point, fn_dot_dot_of, s_checked_point, s_dot_of, h1, h2, h3]
theorem s_squared [PtR x a b] [PtR y c d] [FB a k1 l1] [FB b k2 l2] [FB c k3 l3] [FB d k4 l4] (h1 : b4 k1 l1 k3 l3 = true) (h2 : b4 k2 l2 k4 l4 = true)
    (h3 : b4 (nmax (k1 + l3) (k3 + l1) + 1) (l1 + l3) (nmax (k1 + l3) (k3 + l1) + 1) (l1 + l3) = true) (h4 : b4 (nmax (k2 + l4) (k4 + l2) + 1) (l2 + l4) (nmax (k2 + l4) (k4 + l2) + 1) (l2 + l4) = true)
    (h5 : b4 (nmax (k1 + l3) (k3 + l1) + 1 + (nmax (k1 + l3) (k3 + l1) + 1)) (l1 + l3 + (l1 + l3)) (nmax (k2 + l4) (k4 + l2) + 1 + (nmax (k2 + l4) (k4 + l2) + 1)) (l2 + l4 + (l2 + l4)) = true) :
    F_squared [x, y] st = .ok (dP (addF (mulF (subF a c) (subF a c)) (mulF (subF b d) (subF b d)))) st := by
  simp (decide := true) only [F_squared, cs_squared, runF_ap, runK_ret, runK_nx, runK_err, evSs_cs, evSs_nil, nxtS_nx, nxtS_ret, nxtS_err, nxtS_brk, nxtS_cont, bs_ok, bs_err, oo_some, selS_t, selS_f, evS_pass, evS_expr, evS_set, evS_par, evS_ret, evS_retN, evS_brk, evS_cont, evS_ite, evS_jput, evS_raise, evS_try, tryK, ev_var, ev_cst, ev_bin, ev_neg, ev_not, ev_cmp, ev_chain, ev_and, ev_or, ev_ite, ev_tup, ev_lst, ev_idx, ev_slc, ev_call, ev_bi, ev_isi, evs_nil, evs_cons, evo_none, evo_some, andK_bt, andK_bf, orK_bt, orK_bf, iteK_bt, iteK_bf, rb_ok, rb_err, mb_ap, mp_ap, lift_ap, gv_z, gv_s, List.map_cons, List.map_nil, List.length_cons, List.length_nil, List.length_set, List.replicate, List.cons_append, List.nil_append, Nat.reduceAdd, Nat.reduceSub, List.set_cons_zero, List.set_cons_succ, List.getElem?_cons_succ, List.getElem?_cons_zero, Option.map_some, Option.bind_some, assignN, setAll2, setAll3, setAll_nil, bin_add, bin_sub, bin_mul, bin_fdiv, bin_mod, bin_pow, cmp_lt, cmp_le, cmp_gt, cmp_ge, cmp_eqi, cmp_nei, negD_int, tru_bl, bi_int, bi_bl, bi_abs, bi_gcd, bi_lenl, bi_lent, isInt_int, jix, idxT0, idxT1, idxL0, idxL1, decide_true, decide_false, Bool.not_true, Bool.not_false, handle, ev_comp', noErr_ap, noErrR_ok, compL_nil, compL_cons, consO_s, consO_n, compT_ap, selT_t, selT_f, evt_nil, evt_cons, selE_t, selE_f, wipeE_nil, wipeE_cons, it_t, it_l, it_e, it_z, it_r, evS_loop, evH, evS_setT, assignTT, assignTL, assigns_nil, assigns_cons, Nat.reduceLT, if_true, if_false, isN_bb', notN_bb, notN_non, isN_non, isN_int, bi_lst_t, bi_lst_l, bi_tup_l, bi_tup_t, forK_nx, forK_cont, forK_brk, forK_ret, forK_err, forL_nil, fn_squared_checked_point, fn_squared_rest_points, fn_squared_dot_of, s_checked_point, s_rest_points, s_dot_of, h1, h2, h3, h4, h5]
theorem s_scaled [PtR x a b] [NmR w s] [FB a k1 l1] [FB b k2 l2] [FB s k5 l5] (h1 : b4 k1 l1 k5 l5 = true) (h2 : b4 k2 l2 k5 l5 = true) : F_scaled [x, w] st = .ok (.tup [dP (mulF a s), dP (mulF b s)]) st := by
  simp (decide := true) only [F_scaled, cs_scaled, runF_ap, runK_ret, runK_nx, runK_err, evSs_cs, evSs_nil, nxtS_nx, nxtS_ret, nxtS_err, nxtS_brk, nxtS_cont, bs_ok, bs_err, oo_some, selS_t, selS_f, evS_pass, evS_expr, evS_set, evS_par, evS_ret, evS_retN, evS_brk, evS_cont, evS_ite, evS_jput, evS_raise, evS_try, tryK, ev_var, ev_cst, ev_bin, ev_neg, ev_not, ev_cmp, ev_chain, ev_and, ev_or, ev_ite, ev_tup, ev_lst, ev_idx, ev_slc, ev_call, ev_bi, ev_isi, evs_nil, evs_cons, evo_none, evo_some, andK_bt, andK_bf, orK_bt, orK_bf, iteK_bt, iteK_bf, rb_ok, rb_err, mb_ap, mp_ap, lift_ap, gv_z, gv_s, List.map_cons, List.map_nil, List.length_cons, List.length_nil, List.length_set, List.replicate, List.cons_append, List.nil_append, Nat.reduceAdd, Nat.reduceSub, List.set_cons_zero, List.set_cons_succ, List.getElem?_cons_succ, List.getElem?_cons_zero, Option.map_some, Option.bind_some, assignN, setAll2, setAll3, setAll_nil, bin_add, bin_sub, bin_mul, bin_fdiv, bin_mod, bin_pow, cmp_lt, cmp_le, cmp_gt, cmp_ge, cmp_eqi, cmp_nei, negD_int, tru_bl, bi_int, bi_bl, bi_abs, bi_gcd, bi_lenl, bi_lent, isInt_int, jix, idxT0, idxT1, idxL0, idxL1, decide_true, decide_false, Bool.not_true, Bool.not_false, handle, ev_comp', noErr_ap, noErrR_ok, compL_nil, compL_cons, consO_s, consO_n, compT_ap, selT_t, selT_f, evt_nil, evt_cons, selE_t, selE_f, wipeE_nil, wipeE_cons, it_t, it_l, it_e, it_z, it_r, evS_loop, evH, evS_setT, assignTT, assignTL, assigns_nil, assigns_cons, Nat.reduceLT, if_true, if_false, isN_bb', notN_bb, notN_non, isN_non, isN_int, bi_lst_t, bi_lst_l, bi_tup_l, bi_tup_t, forK_nx, forK_cont, forK_brk, forK_ret, forK_err, forL_nil, fn_scaled_checked_point, fn_scaled_checked, fn_scaled_times_point, s_checked_point, s_checked, s_times_point, h1, h2]
theorem s_quarter [PtR x a b] [FB a k1 l1] [FB b k2 l2] : F_quarter [x] st = .ok (.tup [.tup [.int (-b.1), .int b.2], dP a]) st := by
  simp (decide := true) only [F_quarter, cs_quarter, runF_ap, runK_ret, runK_nx, runK_err, evSs_cs, evSs_nil, nxtS_nx, nxtS_ret, nxtS_err, nxtS_brk, nxtS_cont, bs_ok, bs_err, oo_some, selS_t, selS_f, evS_pass, evS_expr, evS_set, evS_par, evS_ret, evS_retN, evS_brk, evS_cont, evS_ite, evS_jput, evS_raise, evS_try, tryK, ev_var, ev_cst, ev_bin, ev_neg, ev_not, ev_cmp, ev_chain, ev_and, ev_or, ev_ite, ev_tup, ev_lst, ev_idx, ev_slc, ev_call, ev_bi, ev_isi, evs_nil, evs_cons, evo_none, evo_some, andK_bt, andK_bf, orK_bt, orK_bf, iteK_bt, iteK_bf, rb_ok, rb_err, mb_ap, mp_ap, lift_ap, gv_z, gv_s, List.map_cons, List.map_nil, List.length_cons, List.length_nil, List.length_set, List.replicate, List.cons_append, List.nil_append, Nat.reduceAdd, Nat.reduceSub, List.set_cons_zero, List.set_cons_succ, List.getElem?_cons_succ, List.getElem?_cons_zero, Option.map_some, Option.bind_some, assignN, setAll2, setAll3, setAll_nil, bin_add, bin_sub, bin_mul, bin_fdiv, bin_mod, bin_pow, cmp_lt, cmp_le, cmp_gt, cmp_ge, cmp_eqi, cmp_nei, negD_int, tru_bl, bi_int, bi_bl, bi_abs, bi_gcd, bi_lenl, bi_lent, isInt_int, jix, idxT0, idxT1, idxL0, idxL1, decide_true, decide_false, Bool.not_true, Bool.not_false, handle, ev_comp', noErr_ap, noErrR_ok, compL_nil, compL_cons, consO_s, consO_n, compT_ap, selT_t, selT_f, evt_nil, evt_cons, selE_t, selE_f, wipeE_nil, wipeE_cons, it_t, it_l, it_e, it_z, it_r, evS_loop, evH, evS_setT, assignTT, assignTL, assigns_nil, assigns_cons, Nat.reduceLT, if_true, if_false, isN_bb', notN_bb, notN_non, isN_non, isN_int, bi_lst_t, bi_lst_l, bi_tup_l, bi_tup_t, forK_nx, forK_cont, forK_brk, forK_ret, forK_err, forL_nil, fn_quarter_checked_point, fn_quarter_turned_point, s_checked_point, s_turned_point]
theorem s_point [NmR x a] [NmR y b] : F_point [x, y] st = .ok (.tup [dP a, dP b]) st := by
  simp (decide := true) only [F_point, cs_point, runF_ap, runK_ret, runK_nx, runK_err, evSs_cs, evSs_nil, nxtS_nx, nxtS_ret, nxtS_err, nxtS_brk, nxtS_cont, bs_ok, bs_err, oo_some, selS_t, selS_f, evS_pass, evS_expr, evS_set, evS_par, evS_ret, evS_retN, evS_brk, evS_cont, evS_ite, evS_jput, evS_raise, evS_try, tryK, ev_var, ev_cst, ev_bin, ev_neg, ev_not, ev_cmp, ev_chain, ev_and, ev_or, ev_ite, ev_tup, ev_lst, ev_idx, ev_slc, ev_call, ev_bi, ev_isi, evs_nil, evs_cons, evo_none, evo_some, andK_bt, andK_bf, orK_bt, orK_bf, iteK_bt, iteK_bf, rb_ok, rb_err, mb_ap, mp_ap, lift_ap, gv_z, gv_s, List.map_cons, List.map_nil, List.length_cons, List.length_nil, List.length_set, List.replicate, List.cons_append, List.nil_append, Nat.reduceAdd, Nat.reduceSub, List.set_cons_zero, List.set_cons_succ, List.getElem?_cons_succ, List.getElem?_cons_zero, Option.map_some, Option.bind_some, assignN, setAll2, setAll3, setAll_nil, bin_add, bin_sub, bin_mul, bin_fdiv, bin_mod, bin_pow, cmp_lt, cmp_le, cmp_gt, cmp_ge, cmp_eqi, cmp_nei, negD_int, tru_bl, bi_int, bi_bl, bi_abs, bi_gcd, bi_lenl, bi_lent, isInt_int, jix, idxT0, idxT1, idxL0, idxL1, decide_true, decide_false, Bool.not_true, Bool.not_false, handle, ev_comp', noErr_ap, noErrR_ok, compL_nil, compL_cons, consO_s, consO_n, compT_ap, selT_t, selT_f, evt_nil, evt_cons, selE_t, selE_f, wipeE_nil, wipeE_cons, it_t, it_l, it_e, it_z, it_r, evS_loop, evH, evS_setT, assignTT, assignTL, assigns_nil, assigns_cons, Nat.reduceLT, if_true, if_false, isN_bb', notN_bb, notN_non, isN_non, isN_int, bi_lst_t, bi_lst_l, bi_tup_l, bi_tup_t, forK_nx, forK_cont, forK_brk, forK_ret, forK_err, forL_nil, fn_point_checked, s_checked]
theorem s_share_between [FB a k1 l1] [FB b k2 l2] [FB c k3 l3] [FB d k4 l4] [FB s k5 l5] (h1 : b4 k3 l3 k1 l1 = true) (h2 : b4 k4 l4 k2 l2 = true) (h3 : b4 (nmax (k3 + l1) (k1 + l3) + 1) (l3 + l1) k5 l5 = true) (h4 : b4 (nmax (k4 + l2) (k2 + l4) + 1) (l4 + l2) k5 l5 = true)
    (h5 : b4 k1 l1 (nmax (k3 + l1) (k1 + l3) + 1 + k5) (l3 + l1 + l5) = true) (h6 : b4 k2 l2 (nmax (k4 + l2) (k2 + l4) + 1 + k5) (l4 + l2 + l5) = true) :
    F_share_between [.tup [dP a, dP b], .tup [dP c, dP d], dP s] st = .ok (.tup [dP (addF a (mulF (subF c a) s)), dP (addF b (mulF (subF d b) s))]) st := by
  simp (decide := true) only [F_share_between, cs_share_between, runF_ap, runK_ret, runK_nx, runK_err, evSs_cs, evSs_nil, nxtS_nx, nxtS_ret, nxtS_err, nxtS_brk, nxtS_cont, bs_ok, bs_err, oo_some, selS_t, selS_f, evS_pass, evS_expr, evS_set, evS_par, evS_ret, evS_retN, evS_brk, evS_cont, evS_ite, evS_jput, evS_raise, evS_try, tryK, ev_var, ev_cst, ev_bin, ev_neg, ev_not, ev_cmp, ev_chain, ev_and, ev_or, ev_ite, ev_tup, ev_lst, ev_idx, ev_slc, ev_call, ev_bi, ev_isi, evs_nil, evs_cons, evo_none, evo_some, andK_bt, andK_bf, orK_bt, orK_bf, iteK_bt, iteK_bf, rb_ok, rb_err, mb_ap, mp_ap, lift_ap, gv_z, gv_s, List.map_cons, List.map_nil, List.length_cons, List.length_nil, List.length_set, List.replicate, List.cons_append, List.nil_append, Nat.reduceAdd, Nat.reduceSub, List.set_cons_zero, List.set_cons_succ, List.getElem?_cons_succ, List.getElem?_cons_zero, Option.map_some, Option.bind_some, assignN, setAll2, setAll3, setAll_nil, bin_add, bin_sub, bin_mul, bin_fdiv, bin_mod, bin_pow, cmp_lt, cmp_le, cmp_gt, cmp_ge, cmp_eqi, cmp_nei, negD_int, tru_bl, bi_int, bi_bl, bi_abs, bi_gcd, bi_lenl, bi_lent, isInt_int, jix, idxT0, idxT1, idxL0, idxL1, decide_true, decide_false, Bool.not_true, Bool.not_false, handle, ev_comp', noErr_ap, noErrR_ok, compL_nil, compL_cons, consO_s, consO_n, compT_ap, selT_t, selT_f, evt_nil, evt_cons, selE_t, selE_f, wipeE_nil, wipeE_cons, it_t, it_l, it_e, it_z, it_r, evS_loop, evH, evS_setT, assignTT, assignTL, assigns_nil, assigns_cons, Nat.reduceLT, if_true, if_false, isN_bb', notN_bb, notN_non, isN_non, isN_int, bi_lst_t, bi_lst_l, bi_tup_l, bi_tup_t, forK_nx, forK_cont, forK_brk, forK_ret, forK_err, forL_nil, fn_share_between_rest_points, fn_share_between_times_point, fn_share_between_sum_points, s_rest_points, s_times_point, s_sum_points, h1, h2, h3, h4, h5, h6]
theorem s_between [PtR x a b] [PtR y c d] [NmR w s] [FB a k1 l1] [FB b k2 l2] [FB c k3 l3] [FB d k4 l4] [FB s k5 l5] (h1 : b4 k3 l3 k1 l1 = true) (h2 : b4 k4 l4 k2 l2 = true) (h3 : b4 (nmax (k3 + l1) (k1 + l3) + 1) (l3 + l1) k5 l5 = true) (h4 : b4 (nmax (k4 + l2) (k2 + l4) + 1) (l4 + l2) k5 l5 = true)
    (h5 : b4 k1 l1 (nmax (k3 + l1) (k1 + l3) + 1 + k5) (l3 + l1 + l5) = true) (h6 : b4 k2 l2 (nmax (k4 + l2) (k2 + l4) + 1 + k5) (l4 + l2 + l5) = true) :
    F_between [x, y, w] st = .ok (.tup [dP (addF a (mulF (subF c a) s)), dP (addF b (mulF (subF d b) s))]) st := by
  simp (decide := true) only [F_between, cs_between, runF_ap, runK_ret, runK_nx, runK_err, evSs_cs, evSs_nil, nxtS_nx, nxtS_ret, nxtS_err, nxtS_brk, nxtS_cont, bs_ok, bs_err, oo_some, selS_t, selS_f, evS_pass, evS_expr, evS_set, evS_par, evS_ret, evS_retN, evS_brk, evS_cont, evS_ite, evS_jput, evS_raise, evS_try, tryK, ev_var, ev_cst, ev_bin, ev_neg, ev_not, ev_cmp, ev_chain, ev_and, ev_or, ev_ite, ev_tup, ev_lst, ev_idx, ev_slc, ev_call, ev_bi, ev_isi, evs_nil, evs_cons, evo_none, evo_some, andK_bt, andK_bf, orK_bt, orK_bf, iteK_bt, iteK_bf, rb_ok, rb_err, mb_ap, mp_ap, lift_ap, gv_z, gv_s, List.map_cons, List.map_nil, List.length_cons, List.length_nil, List.length_set, List.replicate, List.cons_append, List.nil_append, Nat.reduceAdd, Nat.reduceSub, List.set_cons_zero, List.set_cons_succ, List.getElem?_cons_succ, List.getElem?_cons_zero, Option.map_some, Option.bind_some, assignN, setAll2, setAll3, setAll_nil, bin_add, bin_sub, bin_mul, bin_fdiv, bin_mod, bin_pow, cmp_lt, cmp_le, cmp_gt, cmp_ge, cmp_eqi, cmp_nei, negD_int, tru_bl, bi_int, bi_bl, bi_abs, bi_gcd, bi_lenl, bi_lent, isInt_int, jix, idxT0, idxT1, idxL0, idxL1, decide_true, decide_false, Bool.not_true, Bool.not_false, handle, ev_comp', noErr_ap, noErrR_ok, compL_nil, compL_cons, consO_s, consO_n, compT_ap, selT_t, selT_f, evt_nil, evt_cons, selE_t, selE_f, wipeE_nil, wipeE_cons, it_t, it_l, it_e, it_z, it_r, evS_loop, evH, evS_setT, assignTT, assignTL, assigns_nil, assigns_cons, Nat.reduceLT, if_true, if_false, isN_bb', notN_bb, notN_non, isN_non, isN_int, bi_lst_t, bi_lst_l, bi_tup_l, bi_tup_t, forK_nx, forK_cont, forK_brk, forK_ret, forK_err, forL_nil, fn_between_checked_point, fn_between_checked, fn_between_share_between, s_checked_point, s_checked, s_share_between, h1, h2, h3, h4, h5, h6]
end
section
variable {st : S}
theorem isi_str {x : Str} : isiD (.str x) [.bt "list", .bt "tuple"] = some false := rfl
theorem isi_l {xs : List D} : isiD (.lst xs) [.bt "list", .bt "tuple"] = some true := rfl
theorem isi_t {xs : List D} : isiD (.tup xs) [.bt "list", .bt "tuple"] = some true := rfl
def arePts (n : Nat) (lo hi : Int) : Bool := decide (lo ≤ (n : Int)) && decide ((n : Int) ≤ hi)
theorem o_are_points {xs : List D} {lo hi : Int} (d : D) (hd : d = .lst xs ∨ d = .tup xs) (ha : ∀ x ∈ xs, askP x = true) (hl : xs.length ≤ 1000000) : F_are_points [d, .int lo, .int hi] st = .ok (.bl (arePts xs.length lo hi && xs.all isPt)) st := by
  have q1 : isiD d [.bt "list", .bt "tuple"] = some true := by rcases hd with rfl | rfl <;> rfl
  have q2 : biD .len [d] = some (.int (xs.length : Nat)) := by rcases hd with rfl | rfl <;> rfl
  have q3 : itemsD .val [d] = some xs := by rcases hd with rfl | rfl <;> rfl
  have q4 : few xs = some xs := few_ok (Nat.ble_eq_true_of_le hl)
  unfold arePts
  by_cases h1 : lo ≤ (xs.length : Nat)
  · have h1' : decide (lo ≤ ((xs.length : Nat) : Int)) = true := decide_eq_true h1
    by_cases h2 : ((xs.length : Nat) : Int) ≤ hi
    · have h2' : decide (((xs.length : Nat) : Int) ≤ hi) = true := decide_eq_true h2
      have cp : compL (fun x => noErr (compT (.nm 3) [3] [.val d, .val (.int lo), .val (.int hi), .non] (evt g_are_points []) (ev g_are_points (.call "is_point" [.var 3])) x)) xs st = .ok (xs.map fun x => .bl (isPt x)) st := by
        refine compL_map' fun x hx => ?_
        simp only [runF_ap, runK_ret, runK_nx, runK_err, evSs_cs, evSs_nil, nxtS_nx, nxtS_ret, nxtS_err, nxtS_brk, nxtS_cont, bs_ok, bs_err, oo_some, selS_t, selS_f, evS_pass, evS_expr, evS_set, evS_par, evS_ret, evS_retN, evS_brk, evS_cont, evS_ite, evS_jput, evS_raise, evS_try, tryK, ev_var, ev_cst, ev_bin, ev_neg, ev_not, ev_cmp, ev_chain, ev_and, ev_or, ev_ite, ev_tup, ev_lst, ev_idx, ev_slc, ev_call, ev_bi, ev_isi, evs_nil, evs_cons, evo_none, evo_some, andK_bt, andK_bf, orK_bt, orK_bf, iteK_bt, iteK_bf, rb_ok, rb_err, mb_ap, mp_ap, lift_ap, gv_z, gv_s, List.map_cons, List.map_nil, List.length_cons, List.length_nil, List.length_set, List.replicate, List.cons_append, List.nil_append, Nat.reduceAdd, Nat.reduceSub, List.set_cons_zero, List.set_cons_succ, List.getElem?_cons_succ, List.getElem?_cons_zero, Option.map_some, Option.bind_some, assignN, setAll2, setAll3, setAll_nil, bin_add, bin_sub, bin_mul, bin_fdiv, bin_mod, bin_pow, cmp_lt, cmp_le, cmp_gt, cmp_ge, cmp_eqi, cmp_nei, negD_int, tru_bl, bi_int, bi_bl, bi_abs, bi_gcd, bi_lenl, bi_lent, isInt_int, jix, idxT0, idxT1, idxL0, idxL1, decide_true, decide_false, Bool.not_true, Bool.not_false, handle, ev_comp', noErr_ap, noErrR_ok, compL_nil, compL_cons, consO_s, consO_n, compT_ap, selT_t, selT_f, evt_nil, evt_cons, selE_t, selE_f, wipeE_nil, wipeE_cons, it_t, it_l, it_e, it_z, it_r, evS_loop, evH, evS_setT, assignTT, assignTL, assigns_nil, assigns_cons, Nat.reduceLT, if_true, if_false, isN_bb', notN_bb, notN_non, isN_non, isN_int, bi_lst_t, bi_lst_l, bi_tup_l, bi_tup_t, forK_nx, forK_cont, forK_brk, forK_ret, forK_err, forL_nil, fn_are_points_is_point, o_is_point (ha x hx)]
      simp only [F_are_points, cs_are_points, runF_ap, runK_ret, runK_nx, runK_err, evSs_cs, evSs_nil, nxtS_nx, nxtS_ret, nxtS_err, nxtS_brk, nxtS_cont, bs_ok, bs_err, oo_some, selS_t, selS_f, evS_pass, evS_expr, evS_set, evS_par, evS_ret, evS_retN, evS_brk, evS_cont, evS_ite, evS_jput, evS_raise, evS_try, tryK, ev_var, ev_cst, ev_bin, ev_neg, ev_not, ev_cmp, ev_chain, ev_and, ev_or, ev_ite, ev_tup, ev_lst, ev_idx, ev_slc, ev_call, ev_bi, ev_isi, evs_nil, evs_cons, evo_none, evo_some, andK_bt, andK_bf, orK_bt, orK_bf, iteK_bt, iteK_bf, rb_ok, rb_err, mb_ap, mp_ap, lift_ap, gv_z, gv_s, List.map_cons, List.map_nil, List.length_cons, List.length_nil, List.length_set, List.replicate, List.cons_append, List.nil_append, Nat.reduceAdd, Nat.reduceSub, List.set_cons_zero, List.set_cons_succ, List.getElem?_cons_succ, List.getElem?_cons_zero, Option.map_some, Option.bind_some, assignN, setAll2, setAll3, setAll_nil, bin_add, bin_sub, bin_mul, bin_fdiv, bin_mod, bin_pow, cmp_lt, cmp_le, cmp_gt, cmp_ge, cmp_eqi, cmp_nei, negD_int, tru_bl, bi_int, bi_bl, bi_abs, bi_gcd, bi_lenl, bi_lent, isInt_int, jix, idxT0, idxT1, idxL0, idxL1, decide_true, decide_false, Bool.not_true, Bool.not_false, handle, ev_comp', noErr_ap, noErrR_ok, compL_nil, compL_cons, consO_s, consO_n, compT_ap, selT_t, selT_f, evt_nil, evt_cons, selE_t, selE_f, wipeE_nil, wipeE_cons, it_t, it_l, it_e, it_z, it_r, evS_loop, evH, evS_setT, assignTT, assignTL, assigns_nil, assigns_cons, Nat.reduceLT, if_true, if_false, isN_bb', notN_bb, notN_non, isN_non, isN_int, bi_lst_t, bi_lst_l, bi_tup_l, bi_tup_t, forK_nx, forK_cont, forK_brk, forK_ret, forK_err, forL_nil, chainK, q1, q2, q3, q4, cp, h1', h2', bi_all, Bool.true_and]
    · have h2' : decide (((xs.length : Nat) : Int) ≤ hi) = false := decide_eq_false h2
      simp only [F_are_points, cs_are_points, runF_ap, runK_ret, runK_nx, runK_err, evSs_cs, evSs_nil, nxtS_nx, nxtS_ret, nxtS_err, nxtS_brk, nxtS_cont, bs_ok, bs_err, oo_some, selS_t, selS_f, evS_pass, evS_expr, evS_set, evS_par, evS_ret, evS_retN, evS_brk, evS_cont, evS_ite, evS_jput, evS_raise, evS_try, tryK, ev_var, ev_cst, ev_bin, ev_neg, ev_not, ev_cmp, ev_chain, ev_and, ev_or, ev_ite, ev_tup, ev_lst, ev_idx, ev_slc, ev_call, ev_bi, ev_isi, evs_nil, evs_cons, evo_none, evo_some, andK_bt, andK_bf, orK_bt, orK_bf, iteK_bt, iteK_bf, rb_ok, rb_err, mb_ap, mp_ap, lift_ap, gv_z, gv_s, List.map_cons, List.map_nil, List.length_cons, List.length_nil, List.length_set, List.replicate, List.cons_append, List.nil_append, Nat.reduceAdd, Nat.reduceSub, List.set_cons_zero, List.set_cons_succ, List.getElem?_cons_succ, List.getElem?_cons_zero, Option.map_some, Option.bind_some, assignN, setAll2, setAll3, setAll_nil, bin_add, bin_sub, bin_mul, bin_fdiv, bin_mod, bin_pow, cmp_lt, cmp_le, cmp_gt, cmp_ge, cmp_eqi, cmp_nei, negD_int, tru_bl, bi_int, bi_bl, bi_abs, bi_gcd, bi_lenl, bi_lent, isInt_int, jix, idxT0, idxT1, idxL0, idxL1, decide_true, decide_false, Bool.not_true, Bool.not_false, handle, ev_comp', noErr_ap, noErrR_ok, compL_nil, compL_cons, consO_s, consO_n, compT_ap, selT_t, selT_f, evt_nil, evt_cons, selE_t, selE_f, wipeE_nil, wipeE_cons, it_t, it_l, it_e, it_z, it_r, evS_loop, evH, evS_setT, assignTT, assignTL, assigns_nil, assigns_cons, Nat.reduceLT, if_true, if_false, isN_bb', notN_bb, notN_non, isN_non, isN_int, bi_lst_t, bi_lst_l, bi_tup_l, bi_tup_t, forK_nx, forK_cont, forK_brk, forK_ret, forK_err, forL_nil, chainK, q1, q2, h1', h2', Bool.true_and, Bool.false_and]
  · have h1' : decide (lo ≤ ((xs.length : Nat) : Int)) = false := decide_eq_false h1
    simp only [F_are_points, cs_are_points, runF_ap, runK_ret, runK_nx, runK_err, evSs_cs, evSs_nil, nxtS_nx, nxtS_ret, nxtS_err, nxtS_brk, nxtS_cont, bs_ok, bs_err, oo_some, selS_t, selS_f, evS_pass, evS_expr, evS_set, evS_par, evS_ret, evS_retN, evS_brk, evS_cont, evS_ite, evS_jput, evS_raise, evS_try, tryK, ev_var, ev_cst, ev_bin, ev_neg, ev_not, ev_cmp, ev_chain, ev_and, ev_or, ev_ite, ev_tup, ev_lst, ev_idx, ev_slc, ev_call, ev_bi, ev_isi, evs_nil, evs_cons, evo_none, evo_some, andK_bt, andK_bf, orK_bt, orK_bf, iteK_bt, iteK_bf, rb_ok, rb_err, mb_ap, mp_ap, lift_ap, gv_z, gv_s, List.map_cons, List.map_nil, List.length_cons, List.length_nil, List.length_set, List.replicate, List.cons_append, List.nil_append, Nat.reduceAdd, Nat.reduceSub, List.set_cons_zero, List.set_cons_succ, List.getElem?_cons_succ, List.getElem?_cons_zero, Option.map_some, Option.bind_some, assignN, setAll2, setAll3, setAll_nil, bin_add, bin_sub, bin_mul, bin_fdiv, bin_mod, bin_pow, cmp_lt, cmp_le, cmp_gt, cmp_ge, cmp_eqi, cmp_nei, negD_int, tru_bl, bi_int, bi_bl, bi_abs, bi_gcd, bi_lenl, bi_lent, isInt_int, jix, idxT0, idxT1, idxL0, idxL1, decide_true, decide_false, Bool.not_true, Bool.not_false, handle, ev_comp', noErr_ap, noErrR_ok, compL_nil, compL_cons, consO_s, consO_n, compT_ap, selT_t, selT_f, evt_nil, evt_cons, selE_t, selE_f, wipeE_nil, wipeE_cons, it_t, it_l, it_e, it_z, it_r, evS_loop, evH, evS_setT, assignTT, assignTL, assigns_nil, assigns_cons, Nat.reduceLT, if_true, if_false, isN_bb', notN_bb, notN_non, isN_non, isN_int, bi_lst_t, bi_lst_l, bi_tup_l, bi_tup_t, forK_nx, forK_cont, forK_brk, forK_ret, forK_err, forL_nil, chainK, q1, q2, h1', Bool.true_and, Bool.false_and]
theorem n_are_points {d x y : D} (h : isiD d [.bt "list", .bt "tuple"] = some false) : F_are_points [d, x, y] st = .ok (.bl false) st := by
  simp only [F_are_points, cs_are_points, runF_ap, runK_ret, runK_nx, runK_err, evSs_cs, evSs_nil, nxtS_nx, nxtS_ret, nxtS_err, nxtS_brk, nxtS_cont, bs_ok, bs_err, oo_some, selS_t, selS_f, evS_pass, evS_expr, evS_set, evS_par, evS_ret, evS_retN, evS_brk, evS_cont, evS_ite, evS_jput, evS_raise, evS_try, tryK, ev_var, ev_cst, ev_bin, ev_neg, ev_not, ev_cmp, ev_chain, ev_and, ev_or, ev_ite, ev_tup, ev_lst, ev_idx, ev_slc, ev_call, ev_bi, ev_isi, evs_nil, evs_cons, evo_none, evo_some, andK_bt, andK_bf, orK_bt, orK_bf, iteK_bt, iteK_bf, rb_ok, rb_err, mb_ap, mp_ap, lift_ap, gv_z, gv_s, List.map_cons, List.map_nil, List.length_cons, List.length_nil, List.length_set, List.replicate, List.cons_append, List.nil_append, Nat.reduceAdd, Nat.reduceSub, List.set_cons_zero, List.set_cons_succ, List.getElem?_cons_succ, List.getElem?_cons_zero, Option.map_some, Option.bind_some, assignN, setAll2, setAll3, setAll_nil, bin_add, bin_sub, bin_mul, bin_fdiv, bin_mod, bin_pow, cmp_lt, cmp_le, cmp_gt, cmp_ge, cmp_eqi, cmp_nei, negD_int, tru_bl, bi_int, bi_bl, bi_abs, bi_gcd, bi_lenl, bi_lent, isInt_int, jix, idxT0, idxT1, idxL0, idxL1, decide_true, decide_false, Bool.not_true, Bool.not_false, handle, ev_comp', noErr_ap, noErrR_ok, compL_nil, compL_cons, consO_s, consO_n, compT_ap, selT_t, selT_f, evt_nil, evt_cons, selE_t, selE_f, wipeE_nil, wipeE_cons, it_t, it_l, it_e, it_z, it_r, evS_loop, evH, evS_setT, assignTT, assignTL, assigns_nil, assigns_cons, Nat.reduceLT, if_true, if_false, isN_bb', notN_bb, notN_non, isN_non, isN_int, bi_lst_t, bi_lst_l, bi_tup_l, bi_tup_t, forK_nx, forK_cont, forK_brk, forK_ret, forK_err, forL_nil, h]
end
section
variable {x y w : D} {a b c d s : Int × Int} {st : S} {k1 l1 k2 l2 k3 l3 k4 l4 k5 l5 : Nat}
/-! what refuses -/
theorem n_added1 [NoP x] : F_added [x, y] st = .err (badP (.str "one")) st := by simp only [F_added, cs_added, runF_ap, runK_ret, runK_nx, runK_err, evSs_cs, evSs_nil, nxtS_nx, nxtS_ret, nxtS_err, nxtS_brk, nxtS_cont, bs_ok, bs_err, oo_some, selS_t, selS_f, evS_pass, evS_expr, evS_set, evS_par, evS_ret, evS_retN, evS_brk, evS_cont, evS_ite, evS_jput, evS_raise, evS_try, tryK, ev_var, ev_cst, ev_bin, ev_neg, ev_not, ev_cmp, ev_chain, ev_and, ev_or, ev_ite, ev_tup, ev_lst, ev_idx, ev_slc, ev_call, ev_bi, ev_isi, evs_nil, evs_cons, evo_none, evo_some, andK_bt, andK_bf, orK_bt, orK_bf, iteK_bt, iteK_bf, rb_ok, rb_err, mb_ap, mp_ap, lift_ap, gv_z, gv_s, List.map_cons, List.map_nil, List.length_cons, List.length_nil, List.length_set, List.replicate, List.cons_append, List.nil_append, Nat.reduceAdd, Nat.reduceSub, List.set_cons_zero, List.set_cons_succ, List.getElem?_cons_succ, List.getElem?_cons_zero, Option.map_some, Option.bind_some, assignN, setAll2, setAll3, setAll_nil, bin_add, bin_sub, bin_mul, bin_fdiv, bin_mod, bin_pow, cmp_lt, cmp_le, cmp_gt, cmp_ge, cmp_eqi, cmp_nei, negD_int, tru_bl, bi_int, bi_bl, bi_abs, bi_gcd, bi_lenl, bi_lent, isInt_int, jix, idxT0, idxT1, idxL0, idxL1, decide_true, decide_false, Bool.not_true, Bool.not_false, handle, ev_comp', noErr_ap, noErrR_ok, compL_nil, compL_cons, consO_s, consO_n, compT_ap, selT_t, selT_f, evt_nil, evt_cons, selE_t, selE_f, wipeE_nil, wipeE_cons, it_t, it_l, it_e, it_z, it_r, evS_loop, evH, evS_setT, assignTT, assignTL, assigns_nil, assigns_cons, Nat.reduceLT, if_true, if_false, isN_bb', notN_bb, notN_non, isN_non, isN_int, bi_lst_t, bi_lst_l, bi_tup_l, bi_tup_t, forK_nx, forK_cont, forK_brk, forK_ret, forK_err, forL_nil, fn_added_checked_point, n_checked_point]
theorem n_added2 [PtR x a b] [NoP y] : F_added [x, y] st = .err (badP (.str "other")) st := by simp (decide := true) only [F_added, cs_added, runF_ap, runK_ret, runK_nx, runK_err, evSs_cs, evSs_nil, nxtS_nx, nxtS_ret, nxtS_err, nxtS_brk, nxtS_cont, bs_ok, bs_err, oo_some, selS_t, selS_f, evS_pass, evS_expr, evS_set, evS_par, evS_ret, evS_retN, evS_brk, evS_cont, evS_ite, evS_jput, evS_raise, evS_try, tryK, ev_var, ev_cst, ev_bin, ev_neg, ev_not, ev_cmp, ev_chain, ev_and, ev_or, ev_ite, ev_tup, ev_lst, ev_idx, ev_slc, ev_call, ev_bi, ev_isi, evs_nil, evs_cons, evo_none, evo_some, andK_bt, andK_bf, orK_bt, orK_bf, iteK_bt, iteK_bf, rb_ok, rb_err, mb_ap, mp_ap, lift_ap, gv_z, gv_s, List.map_cons, List.map_nil, List.length_cons, List.length_nil, List.length_set, List.replicate, List.cons_append, List.nil_append, Nat.reduceAdd, Nat.reduceSub, List.set_cons_zero, List.set_cons_succ, List.getElem?_cons_succ, List.getElem?_cons_zero, Option.map_some, Option.bind_some, assignN, setAll2, setAll3, setAll_nil, bin_add, bin_sub, bin_mul, bin_fdiv, bin_mod, bin_pow, cmp_lt, cmp_le, cmp_gt, cmp_ge, cmp_eqi, cmp_nei, negD_int, tru_bl, bi_int, bi_bl, bi_abs, bi_gcd, bi_lenl, bi_lent, isInt_int, jix, idxT0, idxT1, idxL0, idxL1, decide_true, decide_false, Bool.not_true, Bool.not_false, handle, ev_comp', noErr_ap, noErrR_ok, compL_nil, compL_cons, consO_s, consO_n, compT_ap, selT_t, selT_f, evt_nil, evt_cons, selE_t, selE_f, wipeE_nil, wipeE_cons, it_t, it_l, it_e, it_z, it_r, evS_loop, evH, evS_setT, assignTT, assignTL, assigns_nil, assigns_cons, Nat.reduceLT, if_true, if_false, isN_bb', notN_bb, notN_non, isN_non, isN_int, bi_lst_t, bi_lst_l, bi_tup_l, bi_tup_t, forK_nx, forK_cont, forK_brk, forK_ret, forK_err, forL_nil, fn_added_checked_point, s_checked_point, n_checked_point]
theorem n_taken1 [NoP x] : F_taken [x, y] st = .err (badP (.str "one")) st := by simp only [F_taken, cs_taken, runF_ap, runK_ret, runK_nx, runK_err, evSs_cs, evSs_nil, nxtS_nx, nxtS_ret, nxtS_err, nxtS_brk, nxtS_cont, bs_ok, bs_err, oo_some, selS_t, selS_f, evS_pass, evS_expr, evS_set, evS_par, evS_ret, evS_retN, evS_brk, evS_cont, evS_ite, evS_jput, evS_raise, evS_try, tryK, ev_var, ev_cst, ev_bin, ev_neg, ev_not, ev_cmp, ev_chain, ev_and, ev_or, ev_ite, ev_tup, ev_lst, ev_idx, ev_slc, ev_call, ev_bi, ev_isi, evs_nil, evs_cons, evo_none, evo_some, andK_bt, andK_bf, orK_bt, orK_bf, iteK_bt, iteK_bf, rb_ok, rb_err, mb_ap, mp_ap, lift_ap, gv_z, gv_s, List.map_cons, List.map_nil, List.length_cons, List.length_nil, List.length_set, List.replicate, List.cons_append, List.nil_append, Nat.reduceAdd, Nat.reduceSub, List.set_cons_zero, List.set_cons_succ, List.getElem?_cons_succ, List.getElem?_cons_zero, Option.map_some, Option.bind_some, assignN, setAll2, setAll3, setAll_nil, bin_add, bin_sub, bin_mul, bin_fdiv, bin_mod, bin_pow, cmp_lt, cmp_le, cmp_gt, cmp_ge, cmp_eqi, cmp_nei, negD_int, tru_bl, bi_int, bi_bl, bi_abs, bi_gcd, bi_lenl, bi_lent, isInt_int, jix, idxT0, idxT1, idxL0, idxL1, decide_true, decide_false, Bool.not_true, Bool.not_false, handle, ev_comp', noErr_ap, noErrR_ok, compL_nil, compL_cons, consO_s, consO_n, compT_ap, selT_t, selT_f, evt_nil, evt_cons, selE_t, selE_f, wipeE_nil, wipeE_cons, it_t, it_l, it_e, it_z, it_r, evS_loop, evH, evS_setT, assignTT, assignTL, assigns_nil, assigns_cons, Nat.reduceLT, if_true, if_false, isN_bb', notN_bb, notN_non, isN_non, isN_int, bi_lst_t, bi_lst_l, bi_tup_l, bi_tup_t, forK_nx, forK_cont, forK_brk, forK_ret, forK_err, forL_nil, fn_taken_checked_point, n_checked_point]
theorem n_taken2 [PtR x a b] [NoP y] : F_taken [x, y] st = .err (badP (.str "other")) st := by simp (decide := true) only [F_taken, cs_taken, runF_ap, runK_ret, runK_nx, runK_err, evSs_cs, evSs_nil, nxtS_nx, nxtS_ret, nxtS_err, nxtS_brk, nxtS_cont, bs_ok, bs_err, oo_some, selS_t, selS_f, evS_pass, evS_expr, evS_set, evS_par, evS_ret, evS_retN, evS_brk, evS_cont, evS_ite, evS_jput, evS_raise, evS_try, tryK, ev_var, ev_cst, ev_bin, ev_neg, ev_not, ev_cmp, ev_chain, ev_and, ev_or, ev_ite, ev_tup, ev_lst, ev_idx, ev_slc, ev_call, ev_bi, ev_isi, evs_nil, evs_cons, evo_none, evo_some, andK_bt, andK_bf, orK_bt, orK_bf, iteK_bt, iteK_bf, rb_ok, rb_err, mb_ap, mp_ap, lift_ap, gv_z, gv_s, List.map_cons, List.map_nil, List.length_cons, List.length_nil, List.length_set, List.replicate, List.cons_append, List.nil_append, Nat.reduceAdd, Nat.reduceSub, List.set_cons_zero, List.set_cons_succ, List.getElem?_cons_succ, List.getElem?_cons_zero, Option.map_some, Option.bind_some, assignN, setAll2, setAll3, setAll_nil, bin_add, bin_sub, bin_mul, bin_fdiv, bin_mod, bin_pow, cmp_lt, cmp_le, cmp_gt, cmp_ge, cmp_eqi, cmp_nei, negD_int, tru_bl, bi_int, bi_bl, bi_abs, bi_gcd, bi_lenl, bi_lent, isInt_int, jix, idxT0, idxT1, idxL0, idxL1, decide_true, decide_false, Bool.not_true, Bool.not_false, handle, ev_comp', noErr_ap, noErrR_ok, compL_nil, compL_cons, consO_s, consO_n, compT_ap, selT_t, selT_f, evt_nil, evt_cons, selE_t, selE_f, wipeE_nil, wipeE_cons, it_t, it_l, it_e, it_z, it_r, evS_loop, evH, evS_setT, assignTT, assignTL, assigns_nil, assigns_cons, Nat.reduceLT, if_true, if_false, isN_bb', notN_bb, notN_non, isN_non, isN_int, bi_lst_t, bi_lst_l, bi_tup_l, bi_tup_t, forK_nx, forK_cont, forK_brk, forK_ret, forK_err, forL_nil, fn_taken_checked_point, s_checked_point, n_checked_point]
theorem n_cross1 [NoP x] : F_cross [x, y] st = .err (badP (.str "one")) st := by simp only [F_cross, cs_cross, runF_ap, runK_ret, runK_nx, runK_err, evSs_cs, evSs_nil, nxtS_nx, nxtS_ret, nxtS_err, nxtS_brk, nxtS_cont, bs_ok, bs_err, oo_some, selS_t, selS_f, evS_pass, evS_expr, evS_set, evS_par, evS_ret, evS_retN, evS_brk, evS_cont, evS_ite, evS_jput, evS_raise, evS_try, tryK, ev_var, ev_cst, ev_bin, ev_neg, ev_not, ev_cmp, ev_chain, ev_and, ev_or, ev_ite, ev_tup, ev_lst, ev_idx, ev_slc, ev_call, ev_bi, ev_isi, evs_nil, evs_cons, evo_none, evo_some, andK_bt, andK_bf, orK_bt, orK_bf, iteK_bt, iteK_bf, rb_ok, rb_err, mb_ap, mp_ap, lift_ap, gv_z, gv_s, List.map_cons, List.map_nil, List.length_cons, List.length_nil, List.length_set, List.replicate, List.cons_append, List.nil_append, Nat.reduceAdd, Nat.reduceSub, List.set_cons_zero, List.set_cons_succ, List.getElem?_cons_succ, List.getElem?_cons_zero, Option.map_some, Option.bind_some, assignN, setAll2, setAll3, setAll_nil, bin_add, bin_sub, bin_mul, bin_fdiv, bin_mod, bin_pow, cmp_lt, cmp_le, cmp_gt, cmp_ge, cmp_eqi, cmp_nei, negD_int, tru_bl, bi_int, bi_bl, bi_abs, bi_gcd, bi_lenl, bi_lent, isInt_int, jix, idxT0, idxT1, idxL0, idxL1, decide_true, decide_false, Bool.not_true, Bool.not_false, handle, ev_comp', noErr_ap, noErrR_ok, compL_nil, compL_cons, consO_s, consO_n, compT_ap, selT_t, selT_f, evt_nil, evt_cons, selE_t, selE_f, wipeE_nil, wipeE_cons, it_t, it_l, it_e, it_z, it_r, evS_loop, evH, evS_setT, assignTT, assignTL, assigns_nil, assigns_cons, Nat.reduceLT, if_true, if_false, isN_bb', notN_bb, notN_non, isN_non, isN_int, bi_lst_t, bi_lst_l, bi_tup_l, bi_tup_t, forK_nx, forK_cont, forK_brk, forK_ret, forK_err, forL_nil, fn_cross_checked_point, n_checked_point]
theorem n_cross2 [PtR x a b] [NoP y] : F_cross [x, y] st = .err (badP (.str "other")) st := by simp (decide := true) only [F_cross, cs_cross, runF_ap, runK_ret, runK_nx, runK_err, evSs_cs, evSs_nil, nxtS_nx, nxtS_ret, nxtS_err, nxtS_brk, nxtS_cont, bs_ok, bs_err, oo_some, selS_t, selS_f, evS_pass, evS_expr, evS_set, evS_par, evS_ret, evS_retN, evS_brk, evS_cont, evS_ite, evS_jput, evS_raise, evS_try, tryK, ev_var, ev_cst, ev_bin, ev_neg, ev_not, ev_cmp, ev_chain, ev_and, ev_or, ev_ite, ev_tup, ev_lst, ev_idx, ev_slc, ev_call, ev_bi, ev_isi, evs_nil, evs_cons, evo_none, evo_some, andK_bt, andK_bf, orK_bt, orK_bf, iteK_bt, iteK_bf, rb_ok, rb_err, mb_ap, mp_ap, lift_ap, gv_z, gv_s, List.map_cons, List.map_nil, List.length_cons, List.length_nil, List.length_set, List.replicate, List.cons_append, List.nil_append, Nat.reduceAdd, Nat.reduceSub, List.set_cons_zero, List.set_cons_succ, List.getElem?_cons_succ, List.getElem?_cons_zero, Option.map_some, Option.bind_some, assignN, setAll2, setAll3, setAll_nil, bin_add, bin_sub, bin_mul, bin_fdiv, bin_mod, bin_pow, cmp_lt, cmp_le, cmp_gt, cmp_ge, cmp_eqi, cmp_nei, negD_int, tru_bl, bi_int, bi_bl, bi_abs, bi_gcd, bi_lenl, bi_lent, isInt_int, jix, idxT0, idxT1, idxL0, idxL1, decide_true, decide_false, Bool.not_true, Bool.not_false, handle, ev_comp', noErr_ap, noErrR_ok, compL_nil, compL_cons, consO_s, consO_n, compT_ap, selT_t, selT_f, evt_nil, evt_cons, selE_t, selE_f, wipeE_nil, wipeE_cons, it_t, it_l, it_e, it_z, it_r, evS_loop, evH, evS_setT, assignTT, assignTL, assigns_nil, assigns_cons, Nat.reduceLT, if_true, if_false, isN_bb', notN_bb, notN_non, isN_non, isN_int, bi_lst_t, bi_lst_l, bi_tup_l, bi_tup_t, forK_nx, forK_cont, forK_brk, forK_ret, forK_err, forL_nil, fn_cross_checked_point, s_checked_point, n_checked_point]
theorem n_dot1 [NoP x] : F_dot [x, y] st = .err (badP (.str "one")) st := by simp only [F_dot, cs_dot, runF_ap, runK_ret, runK_nx, runK_err, evSs_cs, evSs_nil, nxtS_nx, nxtS_ret, nxtS_err, nxtS_brk, nxtS_cont, bs_ok, bs_err, oo_some, selS_t, selS_f, evS_pass, evS_expr, evS_set, evS_par, evS_ret, evS_retN, evS_brk, evS_cont, evS_ite, evS_jput, evS_raise, evS_try, tryK, ev_var, ev_cst, ev_bin, ev_neg, ev_not, ev_cmp, ev_chain, ev_and, ev_or, ev_ite, ev_tup, ev_lst, ev_idx, ev_slc, ev_call, ev_bi, ev_isi, evs_nil, evs_cons, evo_none, evo_some, andK_bt, andK_bf, orK_bt, orK_bf, iteK_bt, iteK_bf, rb_ok, rb_err, mb_ap, mp_ap, lift_ap, gv_z, gv_s, List.map_cons, List.map_nil, List.length_cons, List.length_nil, List.length_set, List.replicate, List.cons_append, List.nil_append, Nat.reduceAdd, Nat.reduceSub, List.set_cons_zero, List.set_cons_succ, List.getElem?_cons_succ, List.getElem?_cons_zero, Option.map_some, Option.bind_some, assignN, setAll2, setAll3, setAll_nil, bin_add, bin_sub, bin_mul, bin_fdiv, bin_mod, bin_pow, cmp_lt, cmp_le, cmp_gt, cmp_ge, cmp_eqi, cmp_nei, negD_int, tru_bl, bi_int, bi_bl, bi_abs, bi_gcd, bi_lenl, bi_lent, isInt_int, jix, idxT0, idxT1, idxL0, idxL1, decide_true, decide_false, Bool.not_true, Bool.not_false, handle, ev_comp', noErr_ap, noErrR_ok, compL_nil, compL_cons, consO_s, consO_n, compT_ap, selT_t, selT_f, evt_nil, evt_cons, selE_t, selE_f, wipeE_nil, wipeE_cons, it_t, it_l, it_e, it_z, it_r, evS_loop, evH, evS_setT, assignTT, assignTL, assigns_nil, assigns_cons, Nat.reduceLT, if_true, if_false, isN_bb', notN_bb, notN_non, isN_non, isN_int, bi_lst_t, bi_lst_l, bi_tup_l, bi_tup_t, forK_nx, forK_cont, forK_brk, forK_ret, forK_err, forL_nil, fn_dot_checked_point, n_checked_point]
theorem n_dot2 [PtR x a b] [NoP y] : F_dot [x, y] st = .err (badP (.str "other")) st := by simp (decide := true) only [F_dot, cs_dot, runF_ap, runK_ret, runK_nx, runK_err, evSs_cs, evSs_nil, nxtS_nx, nxtS_ret, nxtS_err, nxtS_brk, nxtS_cont, bs_ok, bs_err, oo_some, selS_t, selS_f, evS_pass, evS_expr, evS_set, evS_par, evS_ret, evS_retN, evS_brk, evS_cont, evS_ite, evS_jput, evS_raise, evS_try, tryK, ev_var, ev_cst, ev_bin, ev_neg, ev_not, ev_cmp, ev_chain, ev_and, ev_or, ev_ite, ev_tup, ev_lst, ev_idx, ev_slc, ev_call, ev_bi, ev_isi, evs_nil, evs_cons, evo_none, evo_some, andK_bt, andK_bf, orK_bt, orK_bf, iteK_bt, iteK_bf, rb_ok, rb_err, mb_ap, mp_ap, lift_ap, gv_z, gv_s, List.map_cons, List.map_nil, List.length_cons, List.length_nil, List.length_set, List.replicate, List.cons_append, List.nil_append, Nat.reduceAdd, Nat.reduceSub, List.set_cons_zero, List.set_cons_succ, List.getElem?_cons_succ, List.getElem?_cons_zero, Option.map_some, Option.bind_some, assignN, setAll2, setAll3, setAll_nil, bin_add, bin_sub, bin_mul, bin_fdiv, bin_mod, bin_pow, cmp_lt, cmp_le, cmp_gt, cmp_ge, cmp_eqi, cmp_nei, negD_int, tru_bl, bi_int, bi_bl, bi_abs, bi_gcd, bi_lenl, bi_lent, isInt_int, jix, idxT0, idxT1, idxL0, idxL1, decide_true, decide_false, Bool.not_true, Bool.not_false, handle, ev_comp', noErr_ap, noErrR_ok, compL_nil, compL_cons, consO_s, consO_n, compT_ap, selT_t, selT_f, evt_nil, evt_cons, selE_t, selE_f, wipeE_nil, wipeE_cons, it_t, it_l, it_e, it_z, it_r, evS_loop, evH, evS_setT, assignTT, assignTL, assigns_nil, assigns_cons, Nat.reduceLT, if_true, if_false, isN_bb', notN_bb, notN_non, isN_non, isN_int, bi_lst_t, bi_lst_l, bi_tup_l, bi_tup_t, forK_nx, forK_cont, forK_brk, forK_ret, forK_err, forL_nil, fn_dot_checked_point, s_checked_point, n_checked_point]
theorem n_squared1 [NoP x] : F_squared [x, y] st = .err (badP (.str "one")) st := by simp only [F_squared, cs_squared, runF_ap, runK_ret, runK_nx, runK_err, evSs_cs, evSs_nil, nxtS_nx, nxtS_ret, nxtS_err, nxtS_brk, nxtS_cont, bs_ok, bs_err, oo_some, selS_t, selS_f, evS_pass, evS_expr, evS_set, evS_par, evS_ret, evS_retN, evS_brk, evS_cont, evS_ite, evS_jput, evS_raise, evS_try, tryK, ev_var, ev_cst, ev_bin, ev_neg, ev_not, ev_cmp, ev_chain, ev_and, ev_or, ev_ite, ev_tup, ev_lst, ev_idx, ev_slc, ev_call, ev_bi, ev_isi, evs_nil, evs_cons, evo_none, evo_some, andK_bt, andK_bf, orK_bt, orK_bf, iteK_bt, iteK_bf, rb_ok, rb_err, mb_ap, mp_ap, lift_ap, gv_z, gv_s, List.map_cons, List.map_nil, List.length_cons, List.length_nil, List.length_set, List.replicate, List.cons_append, List.nil_append, Nat.reduceAdd, Nat.reduceSub, List.set_cons_zero, List.set_cons_succ, List.getElem?_cons_succ, List.getElem?_cons_zero, Option.map_some, Option.bind_some, assignN, setAll2, setAll3, setAll_nil, bin_add, bin_sub, bin_mul, bin_fdiv, bin_mod, bin_pow, cmp_lt, cmp_le, cmp_gt, cmp_ge, cmp_eqi, cmp_nei, negD_int, tru_bl, bi_int, bi_bl, bi_abs, bi_gcd, bi_lenl, bi_lent, isInt_int, jix, idxT0, idxT1, idxL0, idxL1, decide_true, decide_false, Bool.not_true, Bool.not_false, handle, ev_comp', noErr_ap, noErrR_ok, compL_nil, compL_cons, consO_s, consO_n, compT_ap, selT_t, selT_f, evt_nil, evt_cons, selE_t, selE_f, wipeE_nil, wipeE_cons, it_t, it_l, it_e, it_z, it_r, evS_loop, evH, evS_setT, assignTT, assignTL, assigns_nil, assigns_cons, Nat.reduceLT, if_true, if_false, isN_bb', notN_bb, notN_non, isN_non, isN_int, bi_lst_t, bi_lst_l, bi_tup_l, bi_tup_t, forK_nx, forK_cont, forK_brk, forK_ret, forK_err, forL_nil, fn_squared_checked_point, n_checked_point]
theorem n_squared2 [PtR x a b] [NoP y] : F_squared [x, y] st = .err (badP (.str "other")) st := by simp (decide := true) only [F_squared, cs_squared, runF_ap, runK_ret, runK_nx, runK_err, evSs_cs, evSs_nil, nxtS_nx, nxtS_ret, nxtS_err, nxtS_brk, nxtS_cont, bs_ok, bs_err, oo_some, selS_t, selS_f, evS_pass, evS_expr, evS_set, evS_par, evS_ret, evS_retN, evS_brk, evS_cont, evS_ite, evS_jput, evS_raise, evS_try, tryK, ev_var, ev_cst, ev_bin, ev_neg, ev_not, ev_cmp, ev_chain, ev_and, ev_or, ev_ite, ev_tup, ev_lst, ev_idx, ev_slc, ev_call, ev_bi, ev_isi, evs_nil, evs_cons, evo_none, evo_some, andK_bt, andK_bf, orK_bt, orK_bf, iteK_bt, iteK_bf, rb_ok, rb_err, mb_ap, mp_ap, lift_ap, gv_z, gv_s, List.map_cons, List.map_nil, List.length_cons, List.length_nil, List.length_set, List.replicate, List.cons_append, List.nil_append, Nat.reduceAdd, Nat.reduceSub, List.set_cons_zero, List.set_cons_succ, List.getElem?_cons_succ, List.getElem?_cons_zero, Option.map_some, Option.bind_some, assignN, setAll2, setAll3, setAll_nil, bin_add, bin_sub, bin_mul, bin_fdiv, bin_mod, bin_pow, cmp_lt, cmp_le, cmp_gt, cmp_ge, cmp_eqi, cmp_nei, negD_int, tru_bl, bi_int, bi_bl, bi_abs, bi_gcd, bi_lenl, bi_lent, isInt_int, jix, idxT0, idxT1, idxL0, idxL1, decide_true, decide_false, Bool.not_true, Bool.not_false, handle, ev_comp', noErr_ap, noErrR_ok, compL_nil, compL_cons, consO_s, consO_n, compT_ap, selT_t, selT_f, evt_nil, evt_cons, selE_t, selE_f, wipeE_nil, wipeE_cons, it_t, it_l, it_e, it_z, it_r, evS_loop, evH, evS_setT, assignTT, assignTL, assigns_nil, assigns_cons, Nat.reduceLT, if_true, if_false, isN_bb', notN_bb, notN_non, isN_non, isN_int, bi_lst_t, bi_lst_l, bi_tup_l, bi_tup_t, forK_nx, forK_cont, forK_brk, forK_ret, forK_err, forL_nil, fn_squared_checked_point, s_checked_point, n_checked_point]
theorem n_between1 [NoP x] : F_between [x, y, w] st = .err (badP (.str "one")) st := by simp only [F_between, cs_between, runF_ap, runK_ret, runK_nx, runK_err, evSs_cs, evSs_nil, nxtS_nx, nxtS_ret, nxtS_err, nxtS_brk, nxtS_cont, bs_ok, bs_err, oo_some, selS_t, selS_f, evS_pass, evS_expr, evS_set, evS_par, evS_ret, evS_retN, evS_brk, evS_cont, evS_ite, evS_jput, evS_raise, evS_try, tryK, ev_var, ev_cst, ev_bin, ev_neg, ev_not, ev_cmp, ev_chain, ev_and, ev_or, ev_ite, ev_tup, ev_lst, ev_idx, ev_slc, ev_call, ev_bi, ev_isi, evs_nil, evs_cons, evo_none, evo_some, andK_bt, andK_bf, orK_bt, orK_bf, iteK_bt, iteK_bf, rb_ok, rb_err, mb_ap, mp_ap, lift_ap, gv_z, gv_s, List.map_cons, List.map_nil, List.length_cons, List.length_nil, List.length_set, List.replicate, List.cons_append, List.nil_append, Nat.reduceAdd, Nat.reduceSub, List.set_cons_zero, List.set_cons_succ, List.getElem?_cons_succ, List.getElem?_cons_zero, Option.map_some, Option.bind_some, assignN, setAll2, setAll3, setAll_nil, bin_add, bin_sub, bin_mul, bin_fdiv, bin_mod, bin_pow, cmp_lt, cmp_le, cmp_gt, cmp_ge, cmp_eqi, cmp_nei, negD_int, tru_bl, bi_int, bi_bl, bi_abs, bi_gcd, bi_lenl, bi_lent, isInt_int, jix, idxT0, idxT1, idxL0, idxL1, decide_true, decide_false, Bool.not_true, Bool.not_false, handle, ev_comp', noErr_ap, noErrR_ok, compL_nil, compL_cons, consO_s, consO_n, compT_ap, selT_t, selT_f, evt_nil, evt_cons, selE_t, selE_f, wipeE_nil, wipeE_cons, it_t, it_l, it_e, it_z, it_r, evS_loop, evH, evS_setT, assignTT, assignTL, assigns_nil, assigns_cons, Nat.reduceLT, if_true, if_false, isN_bb', notN_bb, notN_non, isN_non, isN_int, bi_lst_t, bi_lst_l, bi_tup_l, bi_tup_t, forK_nx, forK_cont, forK_brk, forK_ret, forK_err, forL_nil, fn_between_checked_point, n_checked_point]
theorem n_between2 [PtR x a b] [NoP y] : F_between [x, y, w] st = .err (badP (.str "other")) st := by simp (decide := true) only [F_between, cs_between, runF_ap, runK_ret, runK_nx, runK_err, evSs_cs, evSs_nil, nxtS_nx, nxtS_ret, nxtS_err, nxtS_brk, nxtS_cont, bs_ok, bs_err, oo_some, selS_t, selS_f, evS_pass, evS_expr, evS_set, evS_par, evS_ret, evS_retN, evS_brk, evS_cont, evS_ite, evS_jput, evS_raise, evS_try, tryK, ev_var, ev_cst, ev_bin, ev_neg, ev_not, ev_cmp, ev_chain, ev_and, ev_or, ev_ite, ev_tup, ev_lst, ev_idx, ev_slc, ev_call, ev_bi, ev_isi, evs_nil, evs_cons, evo_none, evo_some, andK_bt, andK_bf, orK_bt, orK_bf, iteK_bt, iteK_bf, rb_ok, rb_err, mb_ap, mp_ap, lift_ap, gv_z, gv_s, List.map_cons, List.map_nil, List.length_cons, List.length_nil, List.length_set, List.replicate, List.cons_append, List.nil_append, Nat.reduceAdd, Nat.reduceSub, List.set_cons_zero, List.set_cons_succ, List.getElem?_cons_succ, List.getElem?_cons_zero, Option.map_some, Option.bind_some, assignN, setAll2, setAll3, setAll_nil, bin_add, bin_sub, bin_mul, bin_fdiv, bin_mod, bin_pow, cmp_lt, cmp_le, cmp_gt, cmp_ge, cmp_eqi, cmp_nei, negD_int, tru_bl, bi_int, bi_bl, bi_abs, bi_gcd, bi_lenl, bi_lent, isInt_int, jix, idxT0, idxT1, idxL0, idxL1, decide_true, decide_false, Bool.not_true, Bool.not_false, handle, ev_comp', noErr_ap, noErrR_ok, compL_nil, compL_cons, consO_s, consO_n, compT_ap, selT_t, selT_f, evt_nil, evt_cons, selE_t, selE_f, wipeE_nil, wipeE_cons, it_t, it_l, it_e, it_z, it_r, evS_loop, evH, evS_setT, assignTT, assignTL, assigns_nil, assigns_cons, Nat.reduceLT, if_true, if_false, isN_bb', notN_bb, notN_non, isN_non, isN_int, bi_lst_t, bi_lst_l, bi_tup_l, bi_tup_t, forK_nx, forK_cont, forK_brk, forK_ret, forK_err, forL_nil, fn_between_checked_point, s_checked_point, n_checked_point]
theorem n_between3 [PtR x a b] [PtR y c d] [NoN w] : F_between [x, y, w] st = .err (badN (.str "share")) st := by simp (decide := true) only [F_between, cs_between, runF_ap, runK_ret, runK_nx, runK_err, evSs_cs, evSs_nil, nxtS_nx, nxtS_ret, nxtS_err, nxtS_brk, nxtS_cont, bs_ok, bs_err, oo_some, selS_t, selS_f, evS_pass, evS_expr, evS_set, evS_par, evS_ret, evS_retN, evS_brk, evS_cont, evS_ite, evS_jput, evS_raise, evS_try, tryK, ev_var, ev_cst, ev_bin, ev_neg, ev_not, ev_cmp, ev_chain, ev_and, ev_or, ev_ite, ev_tup, ev_lst, ev_idx, ev_slc, ev_call, ev_bi, ev_isi, evs_nil, evs_cons, evo_none, evo_some, andK_bt, andK_bf, orK_bt, orK_bf, iteK_bt, iteK_bf, rb_ok, rb_err, mb_ap, mp_ap, lift_ap, gv_z, gv_s, List.map_cons, List.map_nil, List.length_cons, List.length_nil, List.length_set, List.replicate, List.cons_append, List.nil_append, Nat.reduceAdd, Nat.reduceSub, List.set_cons_zero, List.set_cons_succ, List.getElem?_cons_succ, List.getElem?_cons_zero, Option.map_some, Option.bind_some, assignN, setAll2, setAll3, setAll_nil, bin_add, bin_sub, bin_mul, bin_fdiv, bin_mod, bin_pow, cmp_lt, cmp_le, cmp_gt, cmp_ge, cmp_eqi, cmp_nei, negD_int, tru_bl, bi_int, bi_bl, bi_abs, bi_gcd, bi_lenl, bi_lent, isInt_int, jix, idxT0, idxT1, idxL0, idxL1, decide_true, decide_false, Bool.not_true, Bool.not_false, handle, ev_comp', noErr_ap, noErrR_ok, compL_nil, compL_cons, consO_s, consO_n, compT_ap, selT_t, selT_f, evt_nil, evt_cons, selE_t, selE_f, wipeE_nil, wipeE_cons, it_t, it_l, it_e, it_z, it_r, evS_loop, evH, evS_setT, assignTT, assignTL, assigns_nil, assigns_cons, Nat.reduceLT, if_true, if_false, isN_bb', notN_bb, notN_non, isN_non, isN_int, bi_lst_t, bi_lst_l, bi_tup_l, bi_tup_t, forK_nx, forK_cont, forK_brk, forK_ret, forK_err, forL_nil, fn_between_checked_point, fn_between_checked, s_checked_point, n_checked]
theorem n_scaled1 [NoP x] : F_scaled [x, w] st = .err (badP (.str "vector")) st := by simp only [F_scaled, cs_scaled, runF_ap, runK_ret, runK_nx, runK_err, evSs_cs, evSs_nil, nxtS_nx, nxtS_ret, nxtS_err, nxtS_brk, nxtS_cont, bs_ok, bs_err, oo_some, selS_t, selS_f, evS_pass, evS_expr, evS_set, evS_par, evS_ret, evS_retN, evS_brk, evS_cont, evS_ite, evS_jput, evS_raise, evS_try, tryK, ev_var, ev_cst, ev_bin, ev_neg, ev_not, ev_cmp, ev_chain, ev_and, ev_or, ev_ite, ev_tup, ev_lst, ev_idx, ev_slc, ev_call, ev_bi, ev_isi, evs_nil, evs_cons, evo_none, evo_some, andK_bt, andK_bf, orK_bt, orK_bf, iteK_bt, iteK_bf, rb_ok, rb_err, mb_ap, mp_ap, lift_ap, gv_z, gv_s, List.map_cons, List.map_nil, List.length_cons, List.length_nil, List.length_set, List.replicate, List.cons_append, List.nil_append, Nat.reduceAdd, Nat.reduceSub, List.set_cons_zero, List.set_cons_succ, List.getElem?_cons_succ, List.getElem?_cons_zero, Option.map_some, Option.bind_some, assignN, setAll2, setAll3, setAll_nil, bin_add, bin_sub, bin_mul, bin_fdiv, bin_mod, bin_pow, cmp_lt, cmp_le, cmp_gt, cmp_ge, cmp_eqi, cmp_nei, negD_int, tru_bl, bi_int, bi_bl, bi_abs, bi_gcd, bi_lenl, bi_lent, isInt_int, jix, idxT0, idxT1, idxL0, idxL1, decide_true, decide_false, Bool.not_true, Bool.not_false, handle, ev_comp', noErr_ap, noErrR_ok, compL_nil, compL_cons, consO_s, consO_n, compT_ap, selT_t, selT_f, evt_nil, evt_cons, selE_t, selE_f, wipeE_nil, wipeE_cons, it_t, it_l, it_e, it_z, it_r, evS_loop, evH, evS_setT, assignTT, assignTL, assigns_nil, assigns_cons, Nat.reduceLT, if_true, if_false, isN_bb', notN_bb, notN_non, isN_non, isN_int, bi_lst_t, bi_lst_l, bi_tup_l, bi_tup_t, forK_nx, forK_cont, forK_brk, forK_ret, forK_err, forL_nil, fn_scaled_checked_point, n_checked_point]
theorem n_scaled2 [PtR x a b] [NoN w] : F_scaled [x, w] st = .err (badN (.str "factor")) st := by simp (decide := true) only [F_scaled, cs_scaled, runF_ap, runK_ret, runK_nx, runK_err, evSs_cs, evSs_nil, nxtS_nx, nxtS_ret, nxtS_err, nxtS_brk, nxtS_cont, bs_ok, bs_err, oo_some, selS_t, selS_f, evS_pass, evS_expr, evS_set, evS_par, evS_ret, evS_retN, evS_brk, evS_cont, evS_ite, evS_jput, evS_raise, evS_try, tryK, ev_var, ev_cst, ev_bin, ev_neg, ev_not, ev_cmp, ev_chain, ev_and, ev_or, ev_ite, ev_tup, ev_lst, ev_idx, ev_slc, ev_call, ev_bi, ev_isi, evs_nil, evs_cons, evo_none, evo_some, andK_bt, andK_bf, orK_bt, orK_bf, iteK_bt, iteK_bf, rb_ok, rb_err, mb_ap, mp_ap, lift_ap, gv_z, gv_s, List.map_cons, List.map_nil, List.length_cons, List.length_nil, List.length_set, List.replicate, List.cons_append, List.nil_append, Nat.reduceAdd, Nat.reduceSub, List.set_cons_zero, List.set_cons_succ, List.getElem?_cons_succ, List.getElem?_cons_zero, Option.map_some, Option.bind_some, assignN, setAll2, setAll3, setAll_nil, bin_add, bin_sub, bin_mul, bin_fdiv, bin_mod, bin_pow, cmp_lt, cmp_le, cmp_gt, cmp_ge, cmp_eqi, cmp_nei, negD_int, tru_bl, bi_int, bi_bl, bi_abs, bi_gcd, bi_lenl, bi_lent, isInt_int, jix, idxT0, idxT1, idxL0, idxL1, decide_true, decide_false, Bool.not_true, Bool.not_false, handle, ev_comp', noErr_ap, noErrR_ok, compL_nil, compL_cons, consO_s, consO_n, compT_ap, selT_t, selT_f, evt_nil, evt_cons, selE_t, selE_f, wipeE_nil, wipeE_cons, it_t, it_l, it_e, it_z, it_r, evS_loop, evH, evS_setT, assignTT, assignTL, assigns_nil, assigns_cons, Nat.reduceLT, if_true, if_false, isN_bb', notN_bb, notN_non, isN_non, isN_int, bi_lst_t, bi_lst_l, bi_tup_l, bi_tup_t, forK_nx, forK_cont, forK_brk, forK_ret, forK_err, forL_nil, fn_scaled_checked_point, fn_scaled_checked, s_checked_point, n_checked]
theorem n_quarter [NoP x] : F_quarter [x] st = .err (badP (.str "vector")) st := by simp only [F_quarter, cs_quarter, runF_ap, runK_ret, runK_nx, runK_err, evSs_cs, evSs_nil, nxtS_nx, nxtS_ret, nxtS_err, nxtS_brk, nxtS_cont, bs_ok, bs_err, oo_some, selS_t, selS_f, evS_pass, evS_expr, evS_set, evS_par, evS_ret, evS_retN, evS_brk, evS_cont, evS_ite, evS_jput, evS_raise, evS_try, tryK, ev_var, ev_cst, ev_bin, ev_neg, ev_not, ev_cmp, ev_chain, ev_and, ev_or, ev_ite, ev_tup, ev_lst, ev_idx, ev_slc, ev_call, ev_bi, ev_isi, evs_nil, evs_cons, evo_none, evo_some, andK_bt, andK_bf, orK_bt, orK_bf, iteK_bt, iteK_bf, rb_ok, rb_err, mb_ap, mp_ap, lift_ap, gv_z, gv_s, List.map_cons, List.map_nil, List.length_cons, List.length_nil, List.length_set, List.replicate, List.cons_append, List.nil_append, Nat.reduceAdd, Nat.reduceSub, List.set_cons_zero, List.set_cons_succ, List.getElem?_cons_succ, List.getElem?_cons_zero, Option.map_some, Option.bind_some, assignN, setAll2, setAll3, setAll_nil, bin_add, bin_sub, bin_mul, bin_fdiv, bin_mod, bin_pow, cmp_lt, cmp_le, cmp_gt, cmp_ge, cmp_eqi, cmp_nei, negD_int, tru_bl, bi_int, bi_bl, bi_abs, bi_gcd, bi_lenl, bi_lent, isInt_int, jix, idxT0, idxT1, idxL0, idxL1, decide_true, decide_false, Bool.not_true, Bool.not_false, handle, ev_comp', noErr_ap, noErrR_ok, compL_nil, compL_cons, consO_s, consO_n, compT_ap, selT_t, selT_f, evt_nil, evt_cons, selE_t, selE_f, wipeE_nil, wipeE_cons, it_t, it_l, it_e, it_z, it_r, evS_loop, evH, evS_setT, assignTT, assignTL, assigns_nil, assigns_cons, Nat.reduceLT, if_true, if_false, isN_bb', notN_bb, notN_non, isN_non, isN_int, bi_lst_t, bi_lst_l, bi_tup_l, bi_tup_t, forK_nx, forK_cont, forK_brk, forK_ret, forK_err, forL_nil, fn_quarter_checked_point, n_checked_point]
theorem n_point1 [NoN x] : F_point [x, y] st = .err (badN (.str "x")) st := by simp only [F_point, cs_point, runF_ap, runK_ret, runK_nx, runK_err, evSs_cs, evSs_nil, nxtS_nx, nxtS_ret, nxtS_err, nxtS_brk, nxtS_cont, bs_ok, bs_err, oo_some, selS_t, selS_f, evS_pass, evS_expr, evS_set, evS_par, evS_ret, evS_retN, evS_brk, evS_cont, evS_ite, evS_jput, evS_raise, evS_try, tryK, ev_var, ev_cst, ev_bin, ev_neg, ev_not, ev_cmp, ev_chain, ev_and, ev_or, ev_ite, ev_tup, ev_lst, ev_idx, ev_slc, ev_call, ev_bi, ev_isi, evs_nil, evs_cons, evo_none, evo_some, andK_bt, andK_bf, orK_bt, orK_bf, iteK_bt, iteK_bf, rb_ok, rb_err, mb_ap, mp_ap, lift_ap, gv_z, gv_s, List.map_cons, List.map_nil, List.length_cons, List.length_nil, List.length_set, List.replicate, List.cons_append, List.nil_append, Nat.reduceAdd, Nat.reduceSub, List.set_cons_zero, List.set_cons_succ, List.getElem?_cons_succ, List.getElem?_cons_zero, Option.map_some, Option.bind_some, assignN, setAll2, setAll3, setAll_nil, bin_add, bin_sub, bin_mul, bin_fdiv, bin_mod, bin_pow, cmp_lt, cmp_le, cmp_gt, cmp_ge, cmp_eqi, cmp_nei, negD_int, tru_bl, bi_int, bi_bl, bi_abs, bi_gcd, bi_lenl, bi_lent, isInt_int, jix, idxT0, idxT1, idxL0, idxL1, decide_true, decide_false, Bool.not_true, Bool.not_false, handle, ev_comp', noErr_ap, noErrR_ok, compL_nil, compL_cons, consO_s, consO_n, compT_ap, selT_t, selT_f, evt_nil, evt_cons, selE_t, selE_f, wipeE_nil, wipeE_cons, it_t, it_l, it_e, it_z, it_r, evS_loop, evH, evS_setT, assignTT, assignTL, assigns_nil, assigns_cons, Nat.reduceLT, if_true, if_false, isN_bb', notN_bb, notN_non, isN_non, isN_int, bi_lst_t, bi_lst_l, bi_tup_l, bi_tup_t, forK_nx, forK_cont, forK_brk, forK_ret, forK_err, forL_nil, fn_point_checked, n_checked]
theorem n_point2 [NmR x a] [NoN y] : F_point [x, y] st = .err (badN (.str "y")) st := by simp (decide := true) only [F_point, cs_point, runF_ap, runK_ret, runK_nx, runK_err, evSs_cs, evSs_nil, nxtS_nx, nxtS_ret, nxtS_err, nxtS_brk, nxtS_cont, bs_ok, bs_err, oo_some, selS_t, selS_f, evS_pass, evS_expr, evS_set, evS_par, evS_ret, evS_retN, evS_brk, evS_cont, evS_ite, evS_jput, evS_raise, evS_try, tryK, ev_var, ev_cst, ev_bin, ev_neg, ev_not, ev_cmp, ev_chain, ev_and, ev_or, ev_ite, ev_tup, ev_lst, ev_idx, ev_slc, ev_call, ev_bi, ev_isi, evs_nil, evs_cons, evo_none, evo_some, andK_bt, andK_bf, orK_bt, orK_bf, iteK_bt, iteK_bf, rb_ok, rb_err, mb_ap, mp_ap, lift_ap, gv_z, gv_s, List.map_cons, List.map_nil, List.length_cons, List.length_nil, List.length_set, List.replicate, List.cons_append, List.nil_append, Nat.reduceAdd, Nat.reduceSub, List.set_cons_zero, List.set_cons_succ, List.getElem?_cons_succ, List.getElem?_cons_zero, Option.map_some, Option.bind_some, assignN, setAll2, setAll3, setAll_nil, bin_add, bin_sub, bin_mul, bin_fdiv, bin_mod, bin_pow, cmp_lt, cmp_le, cmp_gt, cmp_ge, cmp_eqi, cmp_nei, negD_int, tru_bl, bi_int, bi_bl, bi_abs, bi_gcd, bi_lenl, bi_lent, isInt_int, jix, idxT0, idxT1, idxL0, idxL1, decide_true, decide_false, Bool.not_true, Bool.not_false, handle, ev_comp', noErr_ap, noErrR_ok, compL_nil, compL_cons, consO_s, consO_n, compT_ap, selT_t, selT_f, evt_nil, evt_cons, selE_t, selE_f, wipeE_nil, wipeE_cons, it_t, it_l, it_e, it_z, it_r, evS_loop, evH, evS_setT, assignTT, assignTL, assigns_nil, assigns_cons, Nat.reduceLT, if_true, if_false, isN_bb', notN_bb, notN_non, isN_non, isN_int, bi_lst_t, bi_lst_l, bi_tup_l, bi_tup_t, forK_nx, forK_cont, forK_brk, forK_ret, forK_err, forL_nil, fn_point_checked, s_checked, n_checked]
end
end LK
namespace LK
open PySem PySem.W PyProof.Rows PySem.Spec L2 DE He
def top (i : Nat) : Stmt := PySem.Challenge.pw_oddsquares_k02_points_and_vectors.main.body.getD i (.Pass ⟨0, 0, 0, 0⟩)
/-! ### errors -/
def subT : SubT := [((("BadNumber" : Str), ("BadPoint" : Str)), false), ((("BadPoint" : Str), ("BadPoint" : Str)), true), ((("BadNumber" : Str), ("BadNumber" : Str)), true), ((("BadPoint" : Str), ("BadNumber" : Str)), false)]
def ed0 : EDef := ⟨"BadNumber", ["part"], "BadNumber.__init__", defArgs (inSt (top 9) 0), defBody (inSt (top 9) 0), defScope (inSt (top 9) 0)⟩
theorem et0 : EText ed0 := ⟨⟨_, rfl, rfl⟩, fun _ _ _ _ _ _ _ us hu => match us, hu with | [_, _], _ => rfl⟩
def ed1 : EDef := ⟨"BadPoint", ["part"], "BadPoint.__init__", defArgs (inSt (top 10) 0), defBody (inSt (top 10) 0), defScope (inSt (top 10) 0)⟩
theorem et1 : EText ed1 := ⟨⟨_, rfl, rfl⟩, fun _ _ _ _ _ _ _ us hu => match us, hu with | [_, _], _ => rfl⟩
def esL : List EDef := [ed0, ed1]
/-! ### the defs in the small language -/
def ct_is_integer : Ct := { N := ["value"], sc := defScope (top 2), fnl := none, T := { fns := [], modes := [], csts := [], bis := ["isinstance", "int", "bool"], gcd := false, exs := [], flds := [], cls := [] } }
def ct_is_within : Ct := { N := ["value", "least", "most"], sc := defScope (top 3), fnl := none, T := { fns := [("is_integer", 1)], modes := [], csts := [], bis := [], gcd := false, exs := [], flds := [], cls := [] } }
def ct_is_number : Ct := { N := ["value"], sc := defScope (top 4), fnl := none, T := { fns := [("is_integer", 1), ("is_within", 3)], modes := [], csts := [], bis := ["isinstance", "len", "list", "tuple"], gcd := true, exs := [], flds := [], cls := [] } }
def ct_is_point : Ct := { N := ["value"], sc := defScope (top 5), fnl := none, T := { fns := [("is_number", 1)], modes := [], csts := [], bis := ["isinstance", "len", "list", "tuple"], gcd := false, exs := [], flds := [], cls := [] } }
def ct_are_points : Ct := { N := ["value", "least", "most", "one"], sc := defScope (top 6), fnl := none, T := { fns := [("is_point", 1)], modes := [], csts := [], bis := ["all", "isinstance", "list", "tuple", "len"], gcd := false, exs := [], flds := [], cls := [] } }
def ct_lowest : Ct := { N := ["top", "under", "shared"], sc := defScope (top 12), fnl := none, T := { fns := [], modes := [], csts := [], bis := [], gcd := true, exs := [], flds := [], cls := [] } }
def ct_as_number : Ct := { N := ["value"], sc := defScope (top 13), fnl := none, T := { fns := [("is_integer", 1)], modes := [], csts := [], bis := [], gcd := false, exs := [], flds := [], cls := [] } }
def ct_sum_of : Ct := { N := ["one", "other"], sc := defScope (top 14), fnl := none, T := { fns := [("lowest", 2)], modes := [], csts := [], bis := [], gcd := false, exs := [], flds := [], cls := [] } }
def ct_rest_of : Ct := { N := ["one", "other"], sc := defScope (top 15), fnl := none, T := { fns := [("lowest", 2)], modes := [], csts := [], bis := [], gcd := false, exs := [], flds := [], cls := [] } }
def ct_product_of : Ct := { N := ["one", "other"], sc := defScope (top 16), fnl := none, T := { fns := [("lowest", 2)], modes := [], csts := [], bis := [], gcd := false, exs := [], flds := [], cls := [] } }
def ct_checked : Ct := { N := ["value", "part"], sc := defScope (top 17), fnl := none, T := { fns := [("as_number", 1), ("is_number", 1)], modes := [], csts := [], bis := [], gcd := false, exs := [("BadNumber", ["part"])], flds := [], cls := [] } }
def ct_as_point : Ct := { N := ["value"], sc := defScope (top 19), fnl := none, T := { fns := [("as_number", 1)], modes := [], csts := [], bis := [], gcd := false, exs := [], flds := [], cls := [] } }
def ct_sum_points : Ct := { N := ["one", "other"], sc := defScope (top 20), fnl := none, T := { fns := [("sum_of", 2)], modes := [], csts := [], bis := [], gcd := false, exs := [], flds := [], cls := [] } }
def ct_rest_points : Ct := { N := ["one", "other"], sc := defScope (top 21), fnl := none, T := { fns := [("rest_of", 2)], modes := [], csts := [], bis := [], gcd := false, exs := [], flds := [], cls := [] } }
def ct_times_point : Ct := { N := ["vector", "factor"], sc := defScope (top 22), fnl := none, T := { fns := [("product_of", 2)], modes := [], csts := [], bis := [], gcd := false, exs := [], flds := [], cls := [] } }
def ct_turned_point : Ct := { N := ["vector", "x", "y"], sc := defScope (top 23), fnl := none, T := { fns := [], modes := [], csts := [], bis := [], gcd := false, exs := [], flds := [], cls := [] } }
def ct_cross_of : Ct := { N := ["one", "other"], sc := defScope (top 24), fnl := none, T := { fns := [("rest_of", 2), ("product_of", 2)], modes := [], csts := [], bis := [], gcd := false, exs := [], flds := [], cls := [] } }
def ct_dot_of : Ct := { N := ["one", "other"], sc := defScope (top 25), fnl := none, T := { fns := [("sum_of", 2), ("product_of", 2)], modes := [], csts := [], bis := [], gcd := false, exs := [], flds := [], cls := [] } }
def ct_checked_point : Ct := { N := ["value", "part"], sc := defScope (top 26), fnl := none, T := { fns := [("as_point", 1), ("is_point", 1)], modes := [], csts := [], bis := [], gcd := false, exs := [("BadPoint", ["part"])], flds := [], cls := [] } }
def ct_point : Ct := { N := ["x", "y", "first"], sc := defScope (top 27), fnl := none, T := { fns := [("checked", 2)], modes := [], csts := [], bis := [], gcd := false, exs := [], flds := [], cls := [] } }
def ct_added : Ct := { N := ["one", "other", "first"], sc := defScope (top 28), fnl := none, T := { fns := [("checked_point", 2), ("sum_points", 2)], modes := [], csts := [], bis := [], gcd := false, exs := [], flds := [], cls := [] } }
def ct_taken : Ct := { N := ["one", "other", "first"], sc := defScope (top 29), fnl := none, T := { fns := [("checked_point", 2), ("rest_points", 2)], modes := [], csts := [], bis := [], gcd := false, exs := [], flds := [], cls := [] } }
def ct_scaled : Ct := { N := ["vector", "factor", "first"], sc := defScope (top 30), fnl := none, T := { fns := [("checked_point", 2), ("times_point", 2), ("checked", 2)], modes := [], csts := [], bis := [], gcd := false, exs := [], flds := [], cls := [] } }
def ct_quarter : Ct := { N := ["vector"], sc := defScope (top 31), fnl := none, T := { fns := [("turned_point", 1), ("checked_point", 2)], modes := [], csts := [], bis := [], gcd := false, exs := [], flds := [], cls := [] } }
def ct_cross : Ct := { N := ["one", "other", "first"], sc := defScope (top 32), fnl := none, T := { fns := [("checked_point", 2), ("cross_of", 2)], modes := [], csts := [], bis := [], gcd := false, exs := [], flds := [], cls := [] } }
def ct_dot : Ct := { N := ["one", "other", "first"], sc := defScope (top 33), fnl := none, T := { fns := [("checked_point", 2), ("dot_of", 2)], modes := [], csts := [], bis := [], gcd := false, exs := [], flds := [], cls := [] } }
def ct_squared : Ct := { N := ["one", "other", "first", "gap"], sc := defScope (top 34), fnl := none, T := { fns := [("checked_point", 2), ("rest_points", 2), ("dot_of", 2)], modes := [], csts := [], bis := [], gcd := false, exs := [], flds := [], cls := [] } }
def ct_share_between : Ct := { N := ["one", "other", "share"], sc := defScope (top 36), fnl := none, T := { fns := [("sum_points", 2), ("times_point", 2), ("rest_points", 2)], modes := [], csts := [], bis := [], gcd := false, exs := [], flds := [], cls := [] } }
def ct_between : Ct := { N := ["one", "other", "share", "first", "second"], sc := defScope (top 35), fnl := none, T := { fns := [("checked_point", 2), ("share_between", 3), ("checked", 2)], modes := [], csts := [], bis := [], gcd := false, exs := [], flds := [], cls := [] } }
def ct__law_vase : Ct := { N := ["script", "cell"], sc := defScope (top 38), fnl := none, T := { fns := [], modes := [], csts := [], bis := ["int"], gcd := false, exs := [], flds := [], cls := [] } }
def es__law_vase : List C := [(.comp (.bi .int [(.var 1)]) (.nm 1) .val [(.slc (.var 0) none (some (.cst (.int 60))))] [] [1]), (.cst (.int 0)), (.cst (.int 0))]
def g__law_vase : Gam := { fn := fun x ds =>  fun _ => .stuck, ex := fun x => exP.lookup x, sub := fun _ _ => none }
def F__law_vase : List D → M (List D) := runL g__law_vase 2 es__law_vase
def ct__law_fill : Ct := { N := ["vase", "many", "at", "cell", "mixed", "rest"], sc := defScope (top 39), fnl := none, T := { fns := [], modes := [], csts := [], bis := ["int", "len", "abs"], gcd := false, exs := [], flds := [], cls := [] } }
def cs__law_fill : List CS := [(.ite (.cmp .gt (.idx (.var 0) (.cst (.int 2))) (.cst (.int 0))) [(.set (.nm 5) (.bi .int [(.idx (.var 0) (.cst (.int 2)))])), (.jput (.var 0) (.cst (.int 2)) (.bin .fdiv (.var 5) (.var 1))), (.ret (.bin .mod (.bi .int [(.var 5)]) (.var 1)))] []), (.set (.nm 2) (.idx (.var 0) (.cst (.int 1)))), (.jput (.var 0) (.cst (.int 1)) (.bin .add (.var 2) (.cst (.int 1)))), (.set (.nm 3) (.bin .add (.bin .mul (.cst (.int 104161)) (.var 2)) (.cst (.int 7121)))), (.ite (.cmp .ne (.idx (.var 0) (.cst (.int 0))) (.lst [])) [(.set (.nm 3) (.idx (.idx (.var 0) (.cst (.int 0))) (.bin .mod (.bi .int [(.var 2)]) (.bi .len [(.idx (.var 0) (.cst (.int 0)))]))))] []), (.ite (.and (.cmp .lt (.var 2) (.bi .len [(.idx (.var 0) (.cst (.int 0)))])) (.cmp .ge (.bi .abs [(.var 3)]) (.bin .pow (.cst (.int 10)) (.cst (.int 18))))) [(.set (.nm 5) (.bin .add (.bin .mul (.cst (.int 2)) (.bin .sub (.bi .abs [(.var 3)]) (.bin .pow (.cst (.int 10)) (.cst (.int 18))))) (.bi .int [(.cmp .lt (.var 3) (.cst (.int 0)))]))), (.jput (.var 0) (.cst (.int 2)) (.bin .fdiv (.bi .int [(.var 5)]) (.var 1))), (.ret (.bin .mod (.bi .int [(.var 5)]) (.var 1)))] []), (.set (.nm 4) (.bin .mod (.bi .int [(.bin .pow (.bin .add (.bin .add (.bin .mod (.bi .int [(.var 3)]) (.cst (.int 2147483629))) (.bin .mul (.cst (.int 72109)) (.var 2))) (.cst (.int 7121))) (.cst (.int 5)))]) (.cst (.int 2147483563)))), (.set (.nm 4) (.bin .mod (.bi .int [(.bin .pow (.bin .add (.bin .add (.bin .mul (.var 4) (.bin .add (.bin .mul (.cst (.int 2)) (.var 2)) (.cst (.int 4517)))) (.bin .mul (.bin .mul (.cst (.int 104161)) (.var 2)) (.var 2))) (.cst (.int 72109))) (.cst (.int 3)))]) (.cst (.int 2147483587)))), (.ret (.bin .mod (.bi .int [(.bin .fdiv (.var 4) (.cst (.int 64)))]) (.var 1)))]
def g__law_fill : Gam := { fn := fun x ds =>  fun _ => .stuck, ex := fun x => exP.lookup x, sub := fun _ _ => none }
def F__law_fill : List D → M D := runF g__law_fill 6 cs__law_fill
def ct__law_one_of : Ct := { N := ["vase", "some"], sc := defScope (top 40), fnl := none, T := { fns := [("_law_fill", 2)], modes := [], csts := [], bis := ["len"], gcd := false, exs := [], flds := [], cls := [] } }
def cs__law_one_of : List CS := [(.ret (.idx (.var 1) (.call "_law_fill" [(.var 0), (.bi .len [(.var 1)])])))]
def g__law_one_of : Gam := { fn := fun x ds => if x = "_law_fill" then F__law_fill ds else fun _ => .stuck, ex := fun x => exP.lookup x, sub := fun _ _ => none }
theorem fn__law_one_of__law_fill : g__law_one_of.fn "_law_fill" = F__law_fill := by kernel_rfl
def F__law_one_of : List D → M D := runF g__law_one_of 2 cs__law_one_of
def ct__law_shared : Ct := { N := ["one", "other", "turn", "a", "b"], sc := defScope (top 41), fnl := none, T := { fns := [], modes := [], csts := [], bis := ["range", "abs", "int"], gcd := false, exs := [], flds := [], cls := [] } }
def cs__law_shared : List CS := [(.par [3, 4] [(.bi .abs [(.var 0)]), (.bi .abs [(.var 1)])]), (.loop (.nm 2) .rng [(.cst (.int 400))] [(.ite (.cmp .eq (.var 4) (.cst (.int 0))) [.brk] []), (.par [3, 4] [(.var 4), (.bin .mod (.bi .int [(.var 3)]) (.var 4))])]), (.ret (.var 3))]
def g__law_shared : Gam := { fn := fun x ds =>  fun _ => .stuck, ex := fun x => exP.lookup x, sub := fun _ _ => none }
def F__law_shared : List D → M D := runF g__law_shared 5 cs__law_shared
def ct__law_low : Ct := { N := ["top", "under", "shared"], sc := defScope (top 42), fnl := none, T := { fns := [("_law_shared", 2)], modes := [], csts := [], bis := [], gcd := false, exs := [], flds := [], cls := [] } }
def cs__law_low : List CS := [(.set (.nm 2) (.call "_law_shared" [(.var 0), (.var 1)])), (.ret (.tup [(.bin .fdiv (.var 0) (.var 2)), (.bin .fdiv (.var 1) (.var 2))]))]
def g__law_low : Gam := { fn := fun x ds => if x = "_law_shared" then F__law_shared ds else fun _ => .stuck, ex := fun x => exP.lookup x, sub := fun _ _ => none }
theorem fn__law_low__law_shared : g__law_low.fn "_law_shared" = F__law_shared := by kernel_rfl
def F__law_low : List D → M D := runF g__law_low 3 cs__law_low
def ct__law_sum : Ct := { N := ["one", "other"], sc := defScope (top 43), fnl := none, T := { fns := [("_law_low", 2)], modes := [], csts := [], bis := [], gcd := false, exs := [], flds := [], cls := [] } }
def cs__law_sum : List CS := [(.ret (.call "_law_low" [(.bin .add (.bin .mul (.idx (.var 0) (.cst (.int 0))) (.idx (.var 1) (.cst (.int 1)))) (.bin .mul (.idx (.var 1) (.cst (.int 0))) (.idx (.var 0) (.cst (.int 1))))), (.bin .mul (.idx (.var 0) (.cst (.int 1))) (.idx (.var 1) (.cst (.int 1))))]))]
def g__law_sum : Gam := { fn := fun x ds => if x = "_law_low" then F__law_low ds else fun _ => .stuck, ex := fun x => exP.lookup x, sub := fun _ _ => none }
theorem fn__law_sum__law_low : g__law_sum.fn "_law_low" = F__law_low := by kernel_rfl
def F__law_sum : List D → M D := runF g__law_sum 2 cs__law_sum
def ct__law_product : Ct := { N := ["one", "other"], sc := defScope (top 44), fnl := none, T := { fns := [("_law_low", 2)], modes := [], csts := [], bis := [], gcd := false, exs := [], flds := [], cls := [] } }
def cs__law_product : List CS := [(.ret (.call "_law_low" [(.bin .mul (.idx (.var 0) (.cst (.int 0))) (.idx (.var 1) (.cst (.int 0)))), (.bin .mul (.idx (.var 0) (.cst (.int 1))) (.idx (.var 1) (.cst (.int 1))))]))]
def g__law_product : Gam := { fn := fun x ds => if x = "_law_low" then F__law_low ds else fun _ => .stuck, ex := fun x => exP.lookup x, sub := fun _ _ => none }
theorem fn__law_product__law_low : g__law_product.fn "_law_low" = F__law_low := by kernel_rfl
def F__law_product : List D → M D := runF g__law_product 2 cs__law_product
def ct__law_less : Ct := { N := ["one", "other"], sc := defScope (top 45), fnl := none, T := { fns := [("_law_sum", 2)], modes := [], csts := [], bis := [], gcd := false, exs := [], flds := [], cls := [] } }
def cs__law_less : List CS := [(.ret (.call "_law_sum" [(.var 0), (.tup [(.neg (.idx (.var 1) (.cst (.int 0)))), (.idx (.var 1) (.cst (.int 1)))])]))]
def g__law_less : Gam := { fn := fun x ds => if x = "_law_sum" then F__law_sum ds else fun _ => .stuck, ex := fun x => exP.lookup x, sub := fun _ _ => none }
theorem fn__law_less__law_sum : g__law_less.fn "_law_sum" = F__law_sum := by kernel_rfl
def F__law_less : List D → M D := runF g__law_less 2 cs__law_less
def ct__law_drawn : Ct := { N := ["vase", "top", "under"], sc := defScope (top 46), fnl := none, T := { fns := [("_law_one_of", 2), ("_law_low", 2), ("_law_fill", 2)], modes := [], csts := [], bis := [], gcd := false, exs := [], flds := [], cls := [] } }
def cs__law_drawn : List CS := [(.set (.nm 1) (.call "_law_one_of" [(.var 0), (.lst [(.call "_law_fill" [(.var 0), (.cst (.int 7))]), (.call "_law_fill" [(.var 0), (.cst (.int 1000))]), (.bin .add (.bin .mul (.call "_law_fill" [(.var 0), (.bin .pow (.cst (.int 10)) (.cst (.int 9)))]) (.bin .pow (.cst (.int 10)) (.cst (.int 9)))) (.cst (.int 1)))])])), (.set (.nm 2) (.call "_law_one_of" [(.var 0), (.lst [(.cst (.int 1)), (.cst (.int 1)), (.bin .add (.cst (.int 1)) (.call "_law_fill" [(.var 0), (.cst (.int 12))])), (.bin .add (.cst (.int 1)) (.call "_law_fill" [(.var 0), (.bin .pow (.cst (.int 10)) (.cst (.int 6)))]))])])), (.ret (.call "_law_low" [(.bin .mul (.var 1) (.bin .sub (.cst (.int 1)) (.bin .mul (.cst (.int 2)) (.call "_law_fill" [(.var 0), (.cst (.int 2))])))), (.var 2)]))]
def g__law_drawn : Gam := { fn := fun x ds => if x = "_law_one_of" then F__law_one_of ds else if x = "_law_low" then F__law_low ds else if x = "_law_fill" then F__law_fill ds else fun _ => .stuck, ex := fun x => exP.lookup x, sub := fun _ _ => none }
theorem fn__law_drawn__law_one_of : g__law_drawn.fn "_law_one_of" = F__law_one_of := by kernel_rfl
theorem fn__law_drawn__law_low : g__law_drawn.fn "_law_low" = F__law_low := by kernel_rfl
theorem fn__law_drawn__law_fill : g__law_drawn.fn "_law_fill" = F__law_fill := by kernel_rfl
def F__law_drawn : List D → M D := runF g__law_drawn 3 cs__law_drawn
def ct__law_spot : Ct := { N := ["vase"], sc := defScope (top 47), fnl := none, T := { fns := [("_law_drawn", 1)], modes := [], csts := [], bis := [], gcd := false, exs := [], flds := [], cls := [] } }
def cs__law_spot : List CS := [(.ret (.tup [(.call "_law_drawn" [(.var 0)]), (.call "_law_drawn" [(.var 0)])]))]
def g__law_spot : Gam := { fn := fun x ds => if x = "_law_drawn" then F__law_drawn ds else fun _ => .stuck, ex := fun x => exP.lookup x, sub := fun _ _ => none }
theorem fn__law_spot__law_drawn : g__law_spot.fn "_law_drawn" = F__law_drawn := by kernel_rfl
def F__law_spot : List D → M D := runF g__law_spot 1 cs__law_spot
def ct__law_passed : Ct := { N := ["vase", "spot", "parts", "pair"], sc := defScope (top 48), fnl := none, T := { fns := [("_law_fill", 2)], modes := [], csts := [], bis := ["list"], gcd := false, exs := [], flds := [], cls := [] } }
def cs__law_passed : List CS := [(.set (.nm 2) (.comp (.ite (.and (.cmp .eq (.idx (.var 3) (.cst (.int 1))) (.cst (.int 1))) (.cmp .eq (.call "_law_fill" [(.var 0), (.cst (.int 2))]) (.cst (.int 0)))) (.idx (.var 3) (.cst (.int 0))) (.ite (.cmp .eq (.call "_law_fill" [(.var 0), (.cst (.int 3))]) (.cst (.int 0))) (.bi .list [(.var 3)]) (.var 3))) (.nm 3) .val [(.var 1)] [] [3])), (.ret (.ite (.cmp .eq (.call "_law_fill" [(.var 0), (.cst (.int 2))]) (.cst (.int 0))) (.var 2) (.tup [(.idx (.var 2) (.cst (.int 0))), (.idx (.var 2) (.cst (.int 1)))])))]
def g__law_passed : Gam := { fn := fun x ds => if x = "_law_fill" then F__law_fill ds else fun _ => .stuck, ex := fun x => exP.lookup x, sub := fun _ _ => none }
theorem fn__law_passed__law_fill : g__law_passed.fn "_law_fill" = F__law_fill := by kernel_rfl
def F__law_passed : List D → M D := runF g__law_passed 4 cs__law_passed
def ct__law_done : Ct := { N := ["way", "one", "other"], sc := defScope (top 49), fnl := none, T := { fns := [("dot", 2), ("added", 2), ("squared", 2), ("between", 3), ("taken", 2), ("cross", 2)], modes := [], csts := [], bis := [], gcd := false, exs := [], flds := [], cls := [] } }
def cs__law_done : List CS := [(.ite (.cmp .lt (.var 0) (.cst (.int 3))) [(.ret (.ite (.cmp .eq (.var 0) (.cst (.int 0))) (.call "added" [(.var 1), (.var 2)]) (.ite (.cmp .eq (.var 0) (.cst (.int 1))) (.call "taken" [(.var 1), (.var 2)]) (.call "cross" [(.var 1), (.var 2)]))))] []), (.ret (.ite (.cmp .eq (.var 0) (.cst (.int 3))) (.call "dot" [(.var 1), (.var 2)]) (.ite (.cmp .eq (.var 0) (.cst (.int 4))) (.call "squared" [(.var 1), (.var 2)]) (.call "between" [(.var 1), (.var 2), (.tup [(.cst (.int 1)), (.cst (.int 3))])]))))]
def g__law_done : Gam := { fn := fun x ds => if x = "dot" then F_dot ds else if x = "added" then F_added ds else if x = "squared" then F_squared ds else if x = "between" then F_between ds else if x = "taken" then F_taken ds else if x = "cross" then F_cross ds else fun _ => .stuck, ex := fun x => exP.lookup x, sub := fun _ _ => none }
theorem fn__law_done_dot : g__law_done.fn "dot" = F_dot := by kernel_rfl
theorem fn__law_done_added : g__law_done.fn "added" = F_added := by kernel_rfl
theorem fn__law_done_squared : g__law_done.fn "squared" = F_squared := by kernel_rfl
theorem fn__law_done_between : g__law_done.fn "between" = F_between := by kernel_rfl
theorem fn__law_done_taken : g__law_done.fn "taken" = F_taken := by kernel_rfl
theorem fn__law_done_cross : g__law_done.fn "cross" = F_cross := by kernel_rfl
def F__law_done : List D → M D := runF g__law_done 3 cs__law_done
def ct__law_part : Ct := { N := ["way", "one", "other", "part", "error"], sc := defScope (top 50), fnl := none, T := { fns := [("_law_done", 3)], modes := [], csts := [], bis := [], gcd := false, exs := [], flds := ["part"], cls := ["BadPoint"] } }
def cs__law_part : List CS := [(.set (.nm 3) (.cst .non)), (.trys [(.expr (.call "_law_done" [(.var 0), (.var 1), (.var 2)]))] [("BadPoint", 4, 3, (.fld "part"))]), (.ret (.var 3))]
def g__law_part : Gam := { fn := fun x ds => if x = "_law_done" then F__law_done ds else fun _ => .stuck, ex := fun x => exP.lookup x, sub := subOf subT }
theorem fn__law_part__law_done : g__law_part.fn "_law_done" = F__law_done := by kernel_rfl
theorem gs__law_part_BadNumber_BadPoint : g__law_part.sub "BadNumber" "BadPoint" = some false := by kernel_rfl
theorem gs__law_part_BadPoint_BadPoint : g__law_part.sub "BadPoint" "BadPoint" = some true := by kernel_rfl
def F__law_part : List D → M D := runF g__law_part 5 cs__law_part
def ct__law_other_part : Ct := { N := ["way", "one", "other", "told", "error"], sc := defScope (top 51), fnl := none, T := { fns := [("quarter", 1), ("scaled", 2), ("point", 2), ("between", 3)], modes := [], csts := [], bis := [], gcd := false, exs := [], flds := ["part"], cls := ["BadPoint", "BadNumber"] } }
def cs__law_other_part : List CS := [(.set (.nm 3) (.cst .non)), (.trys [(.set (.nm 3) (.ite (.cmp .eq (.var 0) (.cst (.int 0))) (.call "quarter" [(.var 1)]) (.ite (.cmp .eq (.var 0) (.cst (.int 1))) (.call "scaled" [(.var 1), (.var 2)]) (.ite (.cmp .eq (.var 0) (.cst (.int 2))) (.call "point" [(.var 1), (.var 2)]) (.call "between" [(.tup [(.cst (.int 0)), (.cst (.int 0))]), (.var 1), (.var 2)]))))), (.set (.nm 3) (.cst .non))] [("BadPoint", 4, 3, (.tup [(.cst (.str "point")), (.fld "part")])), ("BadNumber", 4, 3, (.tup [(.cst (.str "number")), (.fld "part")]))]), (.ret (.var 3))]
def g__law_other_part : Gam := { fn := fun x ds => if x = "quarter" then F_quarter ds else if x = "scaled" then F_scaled ds else if x = "point" then F_point ds else if x = "between" then F_between ds else fun _ => .stuck, ex := fun x => exP.lookup x, sub := subOf subT }
theorem fn__law_other_part_quarter : g__law_other_part.fn "quarter" = F_quarter := by kernel_rfl
theorem fn__law_other_part_scaled : g__law_other_part.fn "scaled" = F_scaled := by kernel_rfl
theorem fn__law_other_part_point : g__law_other_part.fn "point" = F_point := by kernel_rfl
theorem fn__law_other_part_between : g__law_other_part.fn "between" = F_between := by kernel_rfl
theorem gs__law_other_part_BadNumber_BadPoint : g__law_other_part.sub "BadNumber" "BadPoint" = some false := by kernel_rfl
theorem gs__law_other_part_BadPoint_BadPoint : g__law_other_part.sub "BadPoint" "BadPoint" = some true := by kernel_rfl
theorem gs__law_other_part_BadNumber_BadNumber : g__law_other_part.sub "BadNumber" "BadNumber" = some true := by kernel_rfl
theorem gs__law_other_part_BadPoint_BadNumber : g__law_other_part.sub "BadPoint" "BadNumber" = some false := by kernel_rfl
def F__law_other_part : List D → M D := runF g__law_other_part 5 cs__law_other_part
def ct__law_sums_right : Ct := { N := ["vase", "due", "share", "one", "other", "x", "y", "a", "b", "c", "d"], sc := defScope (top 52), fnl := none, T := { fns := [("_law_spot", 1), ("_law_drawn", 1), ("_law_fill", 2), ("_law_passed", 2), ("_law_less", 2), ("_law_sum", 2), ("_law_product", 2), ("is_point", 1)], modes := [("added", 0, ["one", "other"], []), ("taken", 0, ["one", "other"], []), ("point", 0, ["x", "y"], []), ("scaled", 0, ["vector", "factor"], []), ("is_point", 0, ["value"], []), ("cross", 0, ["one", "other"], []), ("dot", 0, ["one", "other"], []), ("squared", 0, ["one", "other"], []), ("quarter", 0, ["vector"], []), ("between", 0, ["one", "other", "share"], [])], csts := [], bis := ["repr", "list"], gcd := false, exs := [], flds := [], cls := [] } }
def cs__law_sums_right : List CS := [(.set (.tp [(.tp [(.nm 7), (.nm 8)]), (.tp [(.nm 9), (.nm 10)]), (.nm 2)]) (.tup [(.call "_law_spot" [(.var 0)]), (.call "_law_spot" [(.var 0)]), (.call "_law_drawn" [(.var 0)])])), (.ite (.cmp .eq (.call "_law_fill" [(.var 0), (.cst (.int 6))]) (.cst (.int 0))) [(.par [9, 10] [(.var 7), (.var 8)])] []), (.par [3, 4] [(.call "_law_passed" [(.var 0), (.tup [(.var 7), (.var 8)])]), (.call "_law_passed" [(.var 0), (.tup [(.var 9), (.var 10)])])]), (.par [5, 6] [(.call "_law_less" [(.var 9), (.var 7)]), (.call "_law_less" [(.var 10), (.var 8)])]), (.ite (.or (.cmp .ne (.call "added" [(.var 3), (.var 4)]) (.tup [(.call "_law_sum" [(.var 7), (.var 9)]), (.call "_law_sum" [(.var 8), (.var 10)])])) (.or (.cmp .ne (.call "taken" [(.var 4), (.var 3)]) (.tup [(.var 5), (.var 6)])) (.cmp .ne (.call "point" [(.idx (.var 3) (.cst (.int 0))), (.idx (.var 3) (.cst (.int 1)))]) (.tup [(.var 7), (.var 8)])))) [(.ret (.cst (.bl false)))] []), (.ite (.or (.cmp .ne (.bi .repr [(.call "cross" [(.var 3), (.var 4)])]) (.bi .repr [(.call "_law_less" [(.call "_law_product" [(.var 7), (.var 10)]), (.call "_law_product" [(.var 8), (.var 9)])])])) (.cmp .ne (.bi .repr [(.call "dot" [(.var 3), (.var 4)])]) (.bi .repr [(.call "_law_sum" [(.call "_law_product" [(.var 7), (.var 9)]), (.call "_law_product" [(.var 8), (.var 10)])])]))) [(.ret (.cst (.bl false)))] []), (.ite (.or (.cmp .ne (.bi .repr [(.call "squared" [(.var 3), (.var 4)])]) (.bi .repr [(.call "_law_sum" [(.call "_law_product" [(.var 5), (.var 5)]), (.call "_law_product" [(.var 6), (.var 6)])])])) (.cmp .ne (.bi .repr [(.call "quarter" [(.var 3)])]) (.bi .repr [(.tup [(.tup [(.neg (.idx (.var 8) (.cst (.int 0)))), (.idx (.var 8) (.cst (.int 1)))]), (.var 7)])]))) [(.ret (.cst (.bl false)))] []), (.ite (.cmp .ne (.bi .repr [(.call "scaled" [(.var 3), (.var 2)])]) (.bi .repr [(.tup [(.call "_law_product" [(.var 7), (.var 2)]), (.call "_law_product" [(.var 8), (.var 2)])])])) [(.ret (.cst (.bl false)))] []), (.set (.nm 1) (.tup [(.call "_law_sum" [(.var 7), (.call "_law_product" [(.var 5), (.var 2)])]), (.call "_law_sum" [(.var 8), (.call "_law_product" [(.var 6), (.var 2)])])])), (.ret (.and (.cmp .eq (.bi .repr [(.call "between" [(.var 3), (.var 4), (.bi .list [(.var 2)])])]) (.bi .repr [(.var 1)])) (.and (.cmp .isN (.call "is_point" [(.var 3)]) (.cst (.bl true))) (.cmp .isN (.call "is_point" [(.var 1)]) (.cst (.bl true))))))]
def g__law_sums_right : Gam := { fn := fun x ds => if x = "_law_spot" then F__law_spot ds else if x = "_law_drawn" then F__law_drawn ds else if x = "_law_fill" then F__law_fill ds else if x = "_law_passed" then F__law_passed ds else if x = "_law_less" then F__law_less ds else if x = "_law_sum" then F__law_sum ds else if x = "_law_product" then F__law_product ds else if x = "is_point" then F_is_point ds else if x = "added" then F_added ds else if x = "taken" then F_taken ds else if x = "point" then F_point ds else if x = "scaled" then F_scaled ds else if x = "cross" then F_cross ds else if x = "dot" then F_dot ds else if x = "squared" then F_squared ds else if x = "quarter" then F_quarter ds else if x = "between" then F_between ds else fun _ => .stuck, ex := fun x => exP.lookup x, sub := fun _ _ => none }
theorem fn__law_sums_right__law_spot : g__law_sums_right.fn "_law_spot" = F__law_spot := by kernel_rfl
theorem fn__law_sums_right__law_drawn : g__law_sums_right.fn "_law_drawn" = F__law_drawn := by kernel_rfl
theorem fn__law_sums_right__law_fill : g__law_sums_right.fn "_law_fill" = F__law_fill := by kernel_rfl
theorem fn__law_sums_right__law_passed : g__law_sums_right.fn "_law_passed" = F__law_passed := by kernel_rfl
theorem fn__law_sums_right__law_less : g__law_sums_right.fn "_law_less" = F__law_less := by kernel_rfl
theorem fn__law_sums_right__law_sum : g__law_sums_right.fn "_law_sum" = F__law_sum := by kernel_rfl
theorem fn__law_sums_right__law_product : g__law_sums_right.fn "_law_product" = F__law_product := by kernel_rfl
theorem fn__law_sums_right_is_point : g__law_sums_right.fn "is_point" = F_is_point := by kernel_rfl
theorem fn__law_sums_right_added : g__law_sums_right.fn "added" = F_added := by kernel_rfl
theorem fn__law_sums_right_taken : g__law_sums_right.fn "taken" = F_taken := by kernel_rfl
theorem fn__law_sums_right_point : g__law_sums_right.fn "point" = F_point := by kernel_rfl
theorem fn__law_sums_right_scaled : g__law_sums_right.fn "scaled" = F_scaled := by kernel_rfl
theorem fn__law_sums_right_cross : g__law_sums_right.fn "cross" = F_cross := by kernel_rfl
theorem fn__law_sums_right_dot : g__law_sums_right.fn "dot" = F_dot := by kernel_rfl
theorem fn__law_sums_right_squared : g__law_sums_right.fn "squared" = F_squared := by kernel_rfl
theorem fn__law_sums_right_quarter : g__law_sums_right.fn "quarter" = F_quarter := by kernel_rfl
theorem fn__law_sums_right_between : g__law_sums_right.fn "between" = F_between := by kernel_rfl
def F__law_sums_right : List D → M D := runF g__law_sums_right 11 cs__law_sums_right
def ct_law : Ct := { N := ["script", "vase", "turn", "bad", "way", "odd", "some", "good", "number", "row", "at"], sc := defScope (top 53), fnl := none, T := { fns := [("_law_vase", 1), ("_law_one_of", 2), ("_law_passed", 2), ("_law_drawn", 1), ("is_point", 1), ("_law_other_part", 3), ("_law_fill", 2), ("_law_sums_right", 1), ("_law_spot", 1), ("are_points", 3), ("_law_part", 3)], modes := [("are_points", 0, ["value", "least", "most"], [])], csts := [], bis := ["range", "tuple", "len"], gcd := false, exs := [], flds := [], cls := [] } }
def g_law : Gam := { fn := fun x ds => if x = "_law_one_of" then F__law_one_of ds else if x = "_law_passed" then F__law_passed ds else if x = "_law_drawn" then F__law_drawn ds else if x = "is_point" then F_is_point ds else if x = "_law_other_part" then F__law_other_part ds else if x = "_law_fill" then F__law_fill ds else if x = "_law_sums_right" then F__law_sums_right ds else if x = "_law_spot" then F__law_spot ds else if x = "are_points" then F_are_points ds else if x = "_law_part" then F__law_part ds else fun _ => .stuck, ex := fun x => exP.lookup x, sub := fun _ _ => none }
theorem fn_law__law_one_of : g_law.fn "_law_one_of" = F__law_one_of := by kernel_rfl
theorem fn_law__law_passed : g_law.fn "_law_passed" = F__law_passed := by kernel_rfl
theorem fn_law__law_drawn : g_law.fn "_law_drawn" = F__law_drawn := by kernel_rfl
theorem fn_law_is_point : g_law.fn "is_point" = F_is_point := by kernel_rfl
theorem fn_law__law_other_part : g_law.fn "_law_other_part" = F__law_other_part := by kernel_rfl
theorem fn_law__law_fill : g_law.fn "_law_fill" = F__law_fill := by kernel_rfl
theorem fn_law__law_sums_right : g_law.fn "_law_sums_right" = F__law_sums_right := by kernel_rfl
theorem fn_law__law_spot : g_law.fn "_law_spot" = F__law_spot := by kernel_rfl
theorem fn_law_are_points : g_law.fn "are_points" = F_are_points := by kernel_rfl
theorem fn_law__law_part : g_law.fn "_law_part" = F__law_part := by kernel_rfl
-- first: (.set (.nm 1) (.call "_law_vase" [(.var 0)]))
def cs_law : List CS := [(.loop (.nm 2) .rng [(.bin .add (.cst (.int 2)) (.call "_law_fill" [(.var 1), (.cst (.int 4))]))] [(.ite (.not (.call "_law_sums_right" [(.var 1)])) [(.ret (.cst (.bl false)))] [])]), (.par [7, 8] [(.call "_law_passed" [(.var 1), (.call "_law_spot" [(.var 1)])]), (.call "_law_drawn" [(.var 1)])]), (.set (.nm 3) (.call "_law_one_of" [(.var 1), (.lst [(.cst .non), (.cst (.bl true)), (.cst (.int 7)), (.cst (.str "12")), (.tup [(.cst (.int 1))]), (.tup [(.cst (.int 1)), (.cst (.int 2)), (.cst (.int 3))]), (.tup [(.tup [(.cst (.int 2)), (.cst (.int 4))]), (.cst (.int 1))]), (.tup [(.cst (.int 1)), (.cst (.bl true))]), (.lst [(.cst (.int 1)), (.cst .non)]), (.cst .dic), (.tup [])])])), (.ite (.cmp .notN (.call "is_point" [(.var 3)]) (.cst (.bl false))) [(.ret (.cst (.bl false)))] []), (.loop (.nm 4) .rng [(.cst (.int 6))] [(.ite (.or (.cmp .ne (.call "_law_part" [(.var 4), (.var 3), (.var 3)]) (.cst (.str "one"))) (.or (.cmp .ne (.call "_law_part" [(.var 4), (.var 7), (.var 3)]) (.cst (.str "other"))) (.cmp .notN (.call "_law_part" [(.var 4), (.var 7), (.var 7)]) (.cst .non)))) [(.ret (.cst (.bl false)))] [])]), (.set (.nm 5) (.call "_law_one_of" [(.var 1), (.lst [(.cst .non), (.cst (.str "1")), (.tup [(.cst (.int 2)), (.cst (.int 4))]), (.cst (.bl true)), (.lst [(.cst (.int 1))]), (.tup [(.cst (.int 1)), (.cst (.int 0))])])])), (.set (.nm 6) (.lst [(.call "_law_other_part" [(.cst (.int 0)), (.var 3), (.cst (.int 0))]), (.call "_law_other_part" [(.cst (.int 1)), (.var 3), (.var 5)]), (.call "_law_other_part" [(.cst (.int 1)), (.var 7), (.var 5)]), (.call "_law_other_part" [(.cst (.int 2)), (.var 5), (.var 5)])])), (.set (.nm 6) (.bin .add (.var 6) (.lst [(.call "_law_other_part" [(.cst (.int 2)), (.var 8), (.var 5)]), (.call "_law_other_part" [(.cst (.int 3)), (.var 3), (.var 5)]), (.call "_law_other_part" [(.cst (.int 3)), (.var 7), (.var 5)]), (.call "_law_other_part" [(.cst (.int 1)), (.var 7), (.var 8)])]))), (.ite (.cmp .ne (.var 6) (.lst [(.tup [(.cst (.str "point")), (.cst (.str "vector"))]), (.tup [(.cst (.str "point")), (.cst (.str "vector"))]), (.tup [(.cst (.str "number")), (.cst (.str "factor"))]), (.tup [(.cst (.str "number")), (.cst (.str "x"))]), (.tup [(.cst (.str "number")), (.cst (.str "y"))]), (.tup [(.cst (.str "point")), (.cst (.str "other"))]), (.tup [(.cst (.str "number")), (.cst (.str "share"))]), (.cst .non)])) [(.ret (.cst (.bl false)))] []), (.par [9, 10] [(.comp (.call "_law_passed" [(.var 1), (.call "_law_spot" [(.var 1)])]) (.nm 2) .rng [(.call "_law_fill" [(.var 1), (.cst (.int 5))])] [] [2]), (.call "_law_fill" [(.var 1), (.cst (.int 6))])]), (.ite (.or (.cmp .notN (.call "are_points" [(.var 9), (.cst (.int 0)), (.cst (.int 4))]) (.cst (.bl true))) (.or (.cmp .notN (.call "are_points" [(.bi .tuple [(.var 9)]), (.bin .add (.bi .len [(.var 9)]) (.cst (.int 1))), (.cst (.int 9))]) (.cst (.bl false))) (.cmp .notN (.call "are_points" [(.var 9), (.cst (.int 0)), (.bin .sub (.bi .len [(.var 9)]) (.cst (.int 1)))]) (.cst (.bl false))))) [(.ret (.cst (.bl false)))] []), (.ret (.and (.cmp .isN (.call "are_points" [(.bin .add (.bin .add (.slc (.var 9) none (some (.var 10))) (.lst [(.var 3)])) (.slc (.var 9) (some (.var 10)) none)), (.cst (.int 0)), (.cst (.int 9))]) (.cst (.bl false))) (.and (.cmp .eq (.call "are_points" [(.var 3), (.cst (.int 0)), (.cst (.int 0))]) (.cmp .eq (.var 3) (.tup []))) (.cmp .isN (.call "are_points" [(.cst (.str "")), (.cst (.int 0)), (.cst (.int 3))]) (.cst (.bl false))))))]
end LK
namespace LK
open PySem DE
theorem drawK : DrawC 104161 7121 2147483629 72109 7121 2147483563 4517 104161 72109 2147483587 64 := by constructor <;> decide
theorem s_fill {n : Nat} {st : S} {many : Int} (J : JS n st) (hn : n ≤ 1000000 := by omega) (h1 : 1 ≤ many := by first | decide | omega) (h2 : many.natAbs.log2 < 9000 := by decide) : Oks (F__law_fill [.jug, .int many] st) fun d st' => ∃ r, d = .int r ∧ 0 ≤ r ∧ r < many ∧ JS (n + 1) st' :=
  spill_ok (Γ := g__law_fill) drawK J hn h1 h2
theorem idx_mem {xs : List D} {i : Int} {st : S} (h0 : 0 ≤ i) (h : i < (xs.length : Nat)) : ∃ d, d ∈ xs ∧ idxM (.lst xs) (.int i) st = .ok d st := by
  obtain ⟨j, rfl⟩ := Int.eq_ofNat_of_zero_le h0
  have hj : j < xs.length := by omega
  have e : L2.ixN xs.length (j : Int) = some j := ix_nat hj
  refine ⟨xs[j], List.getElem_mem hj, ?_⟩
  have e2 : xs[j]? = some xs[j] := by simp [hj]
  simp only [idxM, idxD, e, Option.bind_some, e2]
  rfl
theorem s_one_of {n : Nat} {st : S} {xs : List D} (J : JS n st) (hn : n ≤ 1000000 := by omega) (h1 : 1 ≤ xs.length := by simp) (h2 : xs.length < 1000 := by simp) : Oks (F__law_one_of [.jug, .lst xs] st) fun d st' => d ∈ xs ∧ JS (n + 1) st' := by
  obtain ⟨_, st1, e, r, rfl, p0, p1, J1⟩ := s_fill (many := ((xs.length : Nat) : Int)) J hn (by omega) (by
    have := log2_lt (n := ((xs.length : Nat) : Int).natAbs) (k := 20) (by omega) (by omega)
    omega)
  obtain ⟨d, hd, ed⟩ := idx_mem (st := st1) p0 p1
  refine ⟨d, st1, ?_, hd, J1⟩
  simp only [F__law_one_of, cs__law_one_of, runF_ap, runK_ret, runK_nx, runK_err, evSs_cs, evSs_nil, nxtS_nx, nxtS_ret, nxtS_err, nxtS_brk, nxtS_cont, bs_ok, bs_err, oo_some, selS_t, selS_f, evS_pass, evS_expr, evS_set, evS_par, evS_ret, evS_retN, evS_brk, evS_cont, evS_ite, evS_jput, evS_raise, evS_try, tryK, ev_var, ev_cst, ev_bin, ev_neg, ev_not, ev_cmp, ev_chain, ev_and, ev_or, ev_ite, ev_tup, ev_lst, ev_idx, ev_slc, ev_call, ev_bi, ev_isi, evs_nil, evs_cons, evo_none, evo_some, andK_bt, andK_bf, orK_bt, orK_bf, iteK_bt, iteK_bf, rb_ok, rb_err, mb_ap, mp_ap, lift_ap, gv_z, gv_s, List.map_cons, List.map_nil, List.length_cons, List.length_nil, List.length_set, List.replicate, List.cons_append, List.nil_append, Nat.reduceAdd, Nat.reduceSub, List.set_cons_zero, List.set_cons_succ, List.getElem?_cons_succ, List.getElem?_cons_zero, Option.map_some, Option.bind_some, assignN, setAll2, setAll3, setAll_nil, bin_add, bin_sub, bin_mul, bin_fdiv, bin_mod, bin_pow, cmp_lt, cmp_le, cmp_gt, cmp_ge, cmp_eqi, cmp_nei, negD_int, tru_bl, bi_int, bi_bl, bi_abs, bi_gcd, bi_lenl, bi_lent, isInt_int, jix, idxT0, idxT1, idxL0, idxL1, decide_true, decide_false, Bool.not_true, Bool.not_false, handle, ev_comp', noErr_ap, noErrR_ok, compL_nil, compL_cons, consO_s, consO_n, compT_ap, selT_t, selT_f, evt_nil, evt_cons, selE_t, selE_f, wipeE_nil, wipeE_cons, it_t, it_l, it_e, it_z, it_r, evS_loop, evH, evS_setT, assignTT, assignTL, assigns_nil, assigns_cons, Nat.reduceLT, if_true, if_false, isN_bb', notN_bb, notN_non, isN_non, isN_int, bi_lst_t, bi_lst_l, bi_tup_l, bi_tup_t, forK_nx, forK_cont, forK_brk, forK_ret, forK_err, forL_nil, fn__law_one_of__law_fill, e, ed]
theorem s_shared {p q : Int} {st : S} (h : q.natAbs < 2 ^ 199) : F__law_shared [.int p, .int q] st = .ok (.int ((Nat.gcd p.natAbs q.natAbs : Nat) : Int)) st := shared_ok h
theorem s_low {t u : Int} {k : Nat} {st : S} [b : NB u k] (hu : 0 < u) (h : Nat.ble k 198 = true) : F__law_low [.int t, .int u] st = .ok (dP (low t u)) st := by
  have h := Nat.le_of_ble_eq_true h
  have sh := s_shared (p := t) (q := u) (st := st) (b.le (by omega))
  have es : ((Nat.gcd t.natAbs u.natAbs : Nat) : Int) = sg t u := by unfold sg; rw [if_neg (by omega)]
  rw [es] at sh
  have hd : divOk (sg t u) = true := by
    have hs := sg_ne (t := t) (u := u) (by omega)
    refine divOk_b hs (b := 199) ?_ (by omega) (by omega)
    rw [sg_abs]
    exact Nat.lt_of_le_of_lt (Nat.le_of_dvd (by omega) (Nat.gcd_dvd_right _ _)) (b.le (by omega))
  simp only [F__law_low, cs__law_low, runF_ap, runK_ret, runK_nx, runK_err, evSs_cs, evSs_nil, nxtS_nx, nxtS_ret, nxtS_err, nxtS_brk, nxtS_cont, bs_ok, bs_err, oo_some, selS_t, selS_f, evS_pass, evS_expr, evS_set, evS_par, evS_ret, evS_retN, evS_brk, evS_cont, evS_ite, evS_jput, evS_raise, evS_try, tryK, ev_var, ev_cst, ev_bin, ev_neg, ev_not, ev_cmp, ev_chain, ev_and, ev_or, ev_ite, ev_tup, ev_lst, ev_idx, ev_slc, ev_call, ev_bi, ev_isi, evs_nil, evs_cons, evo_none, evo_some, andK_bt, andK_bf, orK_bt, orK_bf, iteK_bt, iteK_bf, rb_ok, rb_err, mb_ap, mp_ap, lift_ap, gv_z, gv_s, List.map_cons, List.map_nil, List.length_cons, List.length_nil, List.length_set, List.replicate, List.cons_append, List.nil_append, Nat.reduceAdd, Nat.reduceSub, List.set_cons_zero, List.set_cons_succ, List.getElem?_cons_succ, List.getElem?_cons_zero, Option.map_some, Option.bind_some, assignN, setAll2, setAll3, setAll_nil, bin_add, bin_sub, bin_mul, bin_fdiv, bin_mod, bin_pow, cmp_lt, cmp_le, cmp_gt, cmp_ge, cmp_eqi, cmp_nei, negD_int, tru_bl, bi_int, bi_bl, bi_abs, bi_gcd, bi_lenl, bi_lent, isInt_int, jix, idxT0, idxT1, idxL0, idxL1, decide_true, decide_false, Bool.not_true, Bool.not_false, handle, ev_comp', noErr_ap, noErrR_ok, compL_nil, compL_cons, consO_s, consO_n, compT_ap, selT_t, selT_f, evt_nil, evt_cons, selE_t, selE_f, wipeE_nil, wipeE_cons, it_t, it_l, it_e, it_z, it_r, evS_loop, evH, evS_setT, assignTT, assignTL, assigns_nil, assigns_cons, Nat.reduceLT, if_true, if_false, isN_bb', notN_bb, notN_non, isN_non, isN_int, bi_lst_t, bi_lst_l, bi_tup_l, bi_tup_t, forK_nx, forK_cont, forK_brk, forK_ret, forK_err, forL_nil, fn__law_low__law_shared, sh, hd, low, Nat.reduceLT, if_true]
section
variable {a b : Int × Int} {k l m n : Nat} {st : S}
def b5 (k l m n : Nat) : Bool := Nat.ble (l + n) 198 && Nat.ble (k + m) 9000
theorem s_sum [x : FB a k l] [y : FB b m n] (h : b5 k l m n = true) : F__law_sum [dP a, dP b] st = .ok (dP (addF a b)) st := by
  unfold b5 at h
  rw [Bool.and_eq_true] at h
  have h1 := Nat.le_of_ble_eq_true h.1
  have h2 := Nat.le_of_ble_eq_true h.2
  have m1 : mulOk a.1 b.2 = true := mulOk_i (Nat.ble_eq_true_of_le (by omega))
  have m2 : mulOk b.1 a.2 = true := mulOk_i (Nat.ble_eq_true_of_le (by omega))
  have m3 : mulOk a.2 b.2 = true := mulOk_i (Nat.ble_eq_true_of_le (by omega))
  have lo := s_low (t := a.1 * b.2 + b.1 * a.2) (u := a.2 * b.2) (st := st) (Int.mul_pos x.pos y.pos) h.1
  simp only [F__law_sum, cs__law_sum, dP, runF_ap, runK_ret, runK_nx, runK_err, evSs_cs, evSs_nil, nxtS_nx, nxtS_ret, nxtS_err, nxtS_brk, nxtS_cont, bs_ok, bs_err, oo_some, selS_t, selS_f, evS_pass, evS_expr, evS_set, evS_par, evS_ret, evS_retN, evS_brk, evS_cont, evS_ite, evS_jput, evS_raise, evS_try, tryK, ev_var, ev_cst, ev_bin, ev_neg, ev_not, ev_cmp, ev_chain, ev_and, ev_or, ev_ite, ev_tup, ev_lst, ev_idx, ev_slc, ev_call, ev_bi, ev_isi, evs_nil, evs_cons, evo_none, evo_some, andK_bt, andK_bf, orK_bt, orK_bf, iteK_bt, iteK_bf, rb_ok, rb_err, mb_ap, mp_ap, lift_ap, gv_z, gv_s, List.map_cons, List.map_nil, List.length_cons, List.length_nil, List.length_set, List.replicate, List.cons_append, List.nil_append, Nat.reduceAdd, Nat.reduceSub, List.set_cons_zero, List.set_cons_succ, List.getElem?_cons_succ, List.getElem?_cons_zero, Option.map_some, Option.bind_some, assignN, setAll2, setAll3, setAll_nil, bin_add, bin_sub, bin_mul, bin_fdiv, bin_mod, bin_pow, cmp_lt, cmp_le, cmp_gt, cmp_ge, cmp_eqi, cmp_nei, negD_int, tru_bl, bi_int, bi_bl, bi_abs, bi_gcd, bi_lenl, bi_lent, isInt_int, jix, idxT0, idxT1, idxL0, idxL1, decide_true, decide_false, Bool.not_true, Bool.not_false, handle, ev_comp', noErr_ap, noErrR_ok, compL_nil, compL_cons, consO_s, consO_n, compT_ap, selT_t, selT_f, evt_nil, evt_cons, selE_t, selE_f, wipeE_nil, wipeE_cons, it_t, it_l, it_e, it_z, it_r, evS_loop, evH, evS_setT, assignTT, assignTL, assigns_nil, assigns_cons, Nat.reduceLT, if_true, if_false, isN_bb', notN_bb, notN_non, isN_non, isN_int, bi_lst_t, bi_lst_l, bi_tup_l, bi_tup_t, forK_nx, forK_cont, forK_brk, forK_ret, forK_err, forL_nil, fn__law_sum__law_low, m1, m2, m3]
  rw [lo]
  simp only [addF, runF_ap, runK_ret, runK_nx, runK_err, evSs_cs, evSs_nil, nxtS_nx, nxtS_ret, nxtS_err, nxtS_brk, nxtS_cont, bs_ok, bs_err, oo_some, selS_t, selS_f, evS_pass, evS_expr, evS_set, evS_par, evS_ret, evS_retN, evS_brk, evS_cont, evS_ite, evS_jput, evS_raise, evS_try, tryK, ev_var, ev_cst, ev_bin, ev_neg, ev_not, ev_cmp, ev_chain, ev_and, ev_or, ev_ite, ev_tup, ev_lst, ev_idx, ev_slc, ev_call, ev_bi, ev_isi, evs_nil, evs_cons, evo_none, evo_some, andK_bt, andK_bf, orK_bt, orK_bf, iteK_bt, iteK_bf, rb_ok, rb_err, mb_ap, mp_ap, lift_ap, gv_z, gv_s, List.map_cons, List.map_nil, List.length_cons, List.length_nil, List.length_set, List.replicate, List.cons_append, List.nil_append, Nat.reduceAdd, Nat.reduceSub, List.set_cons_zero, List.set_cons_succ, List.getElem?_cons_succ, List.getElem?_cons_zero, Option.map_some, Option.bind_some, assignN, setAll2, setAll3, setAll_nil, bin_add, bin_sub, bin_mul, bin_fdiv, bin_mod, bin_pow, cmp_lt, cmp_le, cmp_gt, cmp_ge, cmp_eqi, cmp_nei, negD_int, tru_bl, bi_int, bi_bl, bi_abs, bi_gcd, bi_lenl, bi_lent, isInt_int, jix, idxT0, idxT1, idxL0, idxL1, decide_true, decide_false, Bool.not_true, Bool.not_false, handle, ev_comp', noErr_ap, noErrR_ok, compL_nil, compL_cons, consO_s, consO_n, compT_ap, selT_t, selT_f, evt_nil, evt_cons, selE_t, selE_f, wipeE_nil, wipeE_cons, it_t, it_l, it_e, it_z, it_r, evS_loop, evH, evS_setT, assignTT, assignTL, assigns_nil, assigns_cons, Nat.reduceLT, if_true, if_false, isN_bb', notN_bb, notN_non, isN_non, isN_int, bi_lst_t, bi_lst_l, bi_tup_l, bi_tup_t, forK_nx, forK_cont, forK_brk, forK_ret, forK_err, forL_nil]
theorem s_product [x : FB a k l] [y : FB b m n] (h : b5 k l m n = true) : F__law_product [dP a, dP b] st = .ok (dP (mulF a b)) st := by
  unfold b5 at h
  rw [Bool.and_eq_true] at h
  have h1 := Nat.le_of_ble_eq_true h.1
  have h2 := Nat.le_of_ble_eq_true h.2
  have m1 : mulOk a.1 b.1 = true := mulOk_i (Nat.ble_eq_true_of_le (by omega))
  have m3 : mulOk a.2 b.2 = true := mulOk_i (Nat.ble_eq_true_of_le (by omega))
  have lo := s_low (t := a.1 * b.1) (u := a.2 * b.2) (st := st) (Int.mul_pos x.pos y.pos) h.1
  simp only [F__law_product, cs__law_product, dP, runF_ap, runK_ret, runK_nx, runK_err, evSs_cs, evSs_nil, nxtS_nx, nxtS_ret, nxtS_err, nxtS_brk, nxtS_cont, bs_ok, bs_err, oo_some, selS_t, selS_f, evS_pass, evS_expr, evS_set, evS_par, evS_ret, evS_retN, evS_brk, evS_cont, evS_ite, evS_jput, evS_raise, evS_try, tryK, ev_var, ev_cst, ev_bin, ev_neg, ev_not, ev_cmp, ev_chain, ev_and, ev_or, ev_ite, ev_tup, ev_lst, ev_idx, ev_slc, ev_call, ev_bi, ev_isi, evs_nil, evs_cons, evo_none, evo_some, andK_bt, andK_bf, orK_bt, orK_bf, iteK_bt, iteK_bf, rb_ok, rb_err, mb_ap, mp_ap, lift_ap, gv_z, gv_s, List.map_cons, List.map_nil, List.length_cons, List.length_nil, List.length_set, List.replicate, List.cons_append, List.nil_append, Nat.reduceAdd, Nat.reduceSub, List.set_cons_zero, List.set_cons_succ, List.getElem?_cons_succ, List.getElem?_cons_zero, Option.map_some, Option.bind_some, assignN, setAll2, setAll3, setAll_nil, bin_add, bin_sub, bin_mul, bin_fdiv, bin_mod, bin_pow, cmp_lt, cmp_le, cmp_gt, cmp_ge, cmp_eqi, cmp_nei, negD_int, tru_bl, bi_int, bi_bl, bi_abs, bi_gcd, bi_lenl, bi_lent, isInt_int, jix, idxT0, idxT1, idxL0, idxL1, decide_true, decide_false, Bool.not_true, Bool.not_false, handle, ev_comp', noErr_ap, noErrR_ok, compL_nil, compL_cons, consO_s, consO_n, compT_ap, selT_t, selT_f, evt_nil, evt_cons, selE_t, selE_f, wipeE_nil, wipeE_cons, it_t, it_l, it_e, it_z, it_r, evS_loop, evH, evS_setT, assignTT, assignTL, assigns_nil, assigns_cons, Nat.reduceLT, if_true, if_false, isN_bb', notN_bb, notN_non, isN_non, isN_int, bi_lst_t, bi_lst_l, bi_tup_l, bi_tup_t, forK_nx, forK_cont, forK_brk, forK_ret, forK_err, forL_nil, fn__law_product__law_low, m1, m3]
  rw [lo]
  simp only [mulF, runF_ap, runK_ret, runK_nx, runK_err, evSs_cs, evSs_nil, nxtS_nx, nxtS_ret, nxtS_err, nxtS_brk, nxtS_cont, bs_ok, bs_err, oo_some, selS_t, selS_f, evS_pass, evS_expr, evS_set, evS_par, evS_ret, evS_retN, evS_brk, evS_cont, evS_ite, evS_jput, evS_raise, evS_try, tryK, ev_var, ev_cst, ev_bin, ev_neg, ev_not, ev_cmp, ev_chain, ev_and, ev_or, ev_ite, ev_tup, ev_lst, ev_idx, ev_slc, ev_call, ev_bi, ev_isi, evs_nil, evs_cons, evo_none, evo_some, andK_bt, andK_bf, orK_bt, orK_bf, iteK_bt, iteK_bf, rb_ok, rb_err, mb_ap, mp_ap, lift_ap, gv_z, gv_s, List.map_cons, List.map_nil, List.length_cons, List.length_nil, List.length_set, List.replicate, List.cons_append, List.nil_append, Nat.reduceAdd, Nat.reduceSub, List.set_cons_zero, List.set_cons_succ, List.getElem?_cons_succ, List.getElem?_cons_zero, Option.map_some, Option.bind_some, assignN, setAll2, setAll3, setAll_nil, bin_add, bin_sub, bin_mul, bin_fdiv, bin_mod, bin_pow, cmp_lt, cmp_le, cmp_gt, cmp_ge, cmp_eqi, cmp_nei, negD_int, tru_bl, bi_int, bi_bl, bi_abs, bi_gcd, bi_lenl, bi_lent, isInt_int, jix, idxT0, idxT1, idxL0, idxL1, decide_true, decide_false, Bool.not_true, Bool.not_false, handle, ev_comp', noErr_ap, noErrR_ok, compL_nil, compL_cons, consO_s, consO_n, compT_ap, selT_t, selT_f, evt_nil, evt_cons, selE_t, selE_f, wipeE_nil, wipeE_cons, it_t, it_l, it_e, it_z, it_r, evS_loop, evH, evS_setT, assignTT, assignTL, assigns_nil, assigns_cons, Nat.reduceLT, if_true, if_false, isN_bb', notN_bb, notN_non, isN_non, isN_int, bi_lst_t, bi_lst_l, bi_tup_l, bi_tup_t, forK_nx, forK_cont, forK_brk, forK_ret, forK_err, forL_nil]
theorem add_neg : addF a (negF b) = subF a b := by
  unfold addF subF negF
  rw [Int.neg_mul]
  rfl
theorem s_less [x : FB a k l] [y : FB b m n] (h : b5 k l m n = true) : F__law_less [dP a, dP b] st = .ok (dP (subF a b)) st := by
  have s := s_sum (a := a) (b := negF b) (st := st) h
  rw [add_neg] at s
  have s' : F__law_sum [.tup [.int a.1, .int a.2], .tup [.int (-b.1), .int b.2]] st = .ok (dP (subF a b)) st := s
  simp only [F__law_less, cs__law_less, dP, runF_ap, runK_ret, runK_nx, runK_err, evSs_cs, evSs_nil, nxtS_nx, nxtS_ret, nxtS_err, nxtS_brk, nxtS_cont, bs_ok, bs_err, oo_some, selS_t, selS_f, evS_pass, evS_expr, evS_set, evS_par, evS_ret, evS_retN, evS_brk, evS_cont, evS_ite, evS_jput, evS_raise, evS_try, tryK, ev_var, ev_cst, ev_bin, ev_neg, ev_not, ev_cmp, ev_chain, ev_and, ev_or, ev_ite, ev_tup, ev_lst, ev_idx, ev_slc, ev_call, ev_bi, ev_isi, evs_nil, evs_cons, evo_none, evo_some, andK_bt, andK_bf, orK_bt, orK_bf, iteK_bt, iteK_bf, rb_ok, rb_err, mb_ap, mp_ap, lift_ap, gv_z, gv_s, List.map_cons, List.map_nil, List.length_cons, List.length_nil, List.length_set, List.replicate, List.cons_append, List.nil_append, Nat.reduceAdd, Nat.reduceSub, List.set_cons_zero, List.set_cons_succ, List.getElem?_cons_succ, List.getElem?_cons_zero, Option.map_some, Option.bind_some, assignN, setAll2, setAll3, setAll_nil, bin_add, bin_sub, bin_mul, bin_fdiv, bin_mod, bin_pow, cmp_lt, cmp_le, cmp_gt, cmp_ge, cmp_eqi, cmp_nei, negD_int, tru_bl, bi_int, bi_bl, bi_abs, bi_gcd, bi_lenl, bi_lent, isInt_int, jix, idxT0, idxT1, idxL0, idxL1, decide_true, decide_false, Bool.not_true, Bool.not_false, handle, ev_comp', noErr_ap, noErrR_ok, compL_nil, compL_cons, consO_s, consO_n, compT_ap, selT_t, selT_f, evt_nil, evt_cons, selE_t, selE_f, wipeE_nil, wipeE_cons, it_t, it_l, it_e, it_z, it_r, evS_loop, evH, evS_setT, assignTT, assignTL, assigns_nil, assigns_cons, Nat.reduceLT, if_true, if_false, isN_bb', notN_bb, notN_non, isN_non, isN_int, bi_lst_t, bi_lst_l, bi_tup_l, bi_tup_t, forK_nx, forK_cont, forK_brk, forK_ret, forK_err, forL_nil, fn__law_less__law_sum, s']
end
/-- a drawn number: 62 bits over 20 bits -/
abbrev FD (p : Int × Int) : Prop := FB p 62 20
theorem p9 : (10 : Int) ^ (9 : Int).toNat = 1000000000 := by decide
theorem p6 : (10 : Int) ^ (6 : Int).toNat = 1000000 := by decide
theorem pk9 : powOk 10 9 = true := by decide
theorem pk6 : powOk 10 6 = true := by decide
theorem s_drawn {n : Nat} {st : S} (J : JS n st) (hn : n ≤ 1000000 - 10 := by omega) : Oks (F__law_drawn [.jug] st) fun d st' => ∃ p, d = dP p ∧ FD p ∧ JS (n + 8) st' := by
  obtain ⟨_, st1, e1, r1, rfl, a1, b1, J1⟩ := s_fill (many := 7) J
  obtain ⟨_, st2, e2, r2, rfl, a2, b2, J2⟩ := s_fill (many := 1000) J1
  obtain ⟨_, st3, e3, r3, rfl, a3, b3, J3⟩ := s_fill (many := 1000000000) J2
  obtain ⟨t, st4, e4, ht, J4⟩ := s_one_of (xs := [.int r1, .int r2, .int (r3 * 1000000000 + 1)]) J3
  obtain ⟨_, st5, e5, r5, rfl, a5, b5, J5⟩ := s_fill (many := 12) J4
  obtain ⟨_, st6, e6, r6, rfl, a6, b6, J6⟩ := s_fill (many := 1000000) J5
  obtain ⟨u, st7, e7, hu, J7⟩ := s_one_of (xs := [.int 1, .int 1, .int (1 + r5), .int (1 + r6)]) J6
  obtain ⟨_, st8, e8, r8, rfl, a8, b8, J8⟩ := s_fill (many := 2) J7
  obtain ⟨t, rfl, t0, t1⟩ : ∃ i, t = .int i ∧ 0 ≤ i ∧ i < 2 ^ 61 := by
    simp only [List.mem_cons, List.not_mem_nil, or_false] at ht
    rcases ht with rfl | rfl | rfl
    · exact ⟨_, rfl, by omega, by omega⟩
    · exact ⟨_, rfl, by omega, by omega⟩
    · exact ⟨_, rfl, by omega, by omega⟩
  obtain ⟨u, rfl, u0, u1⟩ : ∃ i, u = .int i ∧ 0 < i ∧ i < 2 ^ 20 := by
    simp only [List.mem_cons, List.not_mem_nil, or_false] at hu
    rcases hu with rfl | rfl | rfl | rfl
    · exact ⟨_, rfl, by omega, by omega⟩
    · exact ⟨_, rfl, by omega, by omega⟩
    · exact ⟨_, rfl, by omega, by omega⟩
    · exact ⟨_, rfl, by omega, by omega⟩
  haveI : NB u 20 := ⟨by omega⟩
  have m0 : mulOk r3 1000000000 = true := mulOk_r (by decide)
  have m1 : mulOk 2 r8 = true := mulOk_l (by decide)
  have m2 : mulOk t (1 - 2 * r8) = true := mulOk_r (by omega)
  haveI : NB (t * (1 - 2 * r8)) 62 := ⟨by
    have : r8 = 0 ∨ r8 = 1 := by omega
    rcases this with rfl | rfl <;> omega⟩
  have lo := s_low (t := t * (1 - 2 * r8)) (u := u) (st := st8) u0 rfl
  refine ⟨_, st8, ?_, low (t * (1 - 2 * r8)) u, rfl, low_FB (by omega), J8.mono (by omega)⟩
  simp only [F__law_drawn, cs__law_drawn, runF_ap, runK_ret, runK_nx, runK_err, evSs_cs, evSs_nil, nxtS_nx, nxtS_ret, nxtS_err, nxtS_brk, nxtS_cont, bs_ok, bs_err, oo_some, selS_t, selS_f, evS_pass, evS_expr, evS_set, evS_par, evS_ret, evS_retN, evS_brk, evS_cont, evS_ite, evS_jput, evS_raise, evS_try, tryK, ev_var, ev_cst, ev_bin, ev_neg, ev_not, ev_cmp, ev_chain, ev_and, ev_or, ev_ite, ev_tup, ev_lst, ev_idx, ev_slc, ev_call, ev_bi, ev_isi, evs_nil, evs_cons, evo_none, evo_some, andK_bt, andK_bf, orK_bt, orK_bf, iteK_bt, iteK_bf, rb_ok, rb_err, mb_ap, mp_ap, lift_ap, gv_z, gv_s, List.map_cons, List.map_nil, List.length_cons, List.length_nil, List.length_set, List.replicate, List.cons_append, List.nil_append, Nat.reduceAdd, Nat.reduceSub, List.set_cons_zero, List.set_cons_succ, List.getElem?_cons_succ, List.getElem?_cons_zero, Option.map_some, Option.bind_some, assignN, setAll2, setAll3, setAll_nil, bin_add, bin_sub, bin_mul, bin_fdiv, bin_mod, bin_pow, cmp_lt, cmp_le, cmp_gt, cmp_ge, cmp_eqi, cmp_nei, negD_int, tru_bl, bi_int, bi_bl, bi_abs, bi_gcd, bi_lenl, bi_lent, isInt_int, jix, idxT0, idxT1, idxL0, idxL1, decide_true, decide_false, Bool.not_true, Bool.not_false, handle, ev_comp', noErr_ap, noErrR_ok, compL_nil, compL_cons, consO_s, consO_n, compT_ap, selT_t, selT_f, evt_nil, evt_cons, selE_t, selE_f, wipeE_nil, wipeE_cons, it_t, it_l, it_e, it_z, it_r, evS_loop, evH, evS_setT, assignTT, assignTL, assigns_nil, assigns_cons, Nat.reduceLT, if_true, if_false, isN_bb', notN_bb, notN_non, isN_non, isN_int, bi_lst_t, bi_lst_l, bi_tup_l, bi_tup_t, forK_nx, forK_cont, forK_brk, forK_ret, forK_err, forL_nil, fn__law_drawn__law_fill, fn__law_drawn__law_one_of, fn__law_drawn__law_low, pk9, p9, pk6, p6, e1, e2, e3, m0, e4, e5, e6, e7, e8, m1, m2, lo, Nat.reduceLT, if_true]
theorem s_spot {n : Nat} {st : S} (J : JS n st) (hn : n ≤ 1000000 - 20 := by omega) : Oks (F__law_spot [.jug] st) fun d st' => ∃ p q, d = .tup [dP p, dP q] ∧ FD p ∧ FD q ∧ JS (n + 16) st' := by
  obtain ⟨_, st1, e1, p, rfl, f1, J1⟩ := s_drawn J
  obtain ⟨_, st2, e2, q, rfl, f2, J2⟩ := s_drawn J1
  refine ⟨_, st2, ?_, p, q, rfl, f1, f2, J2⟩
  simp only [F__law_spot, cs__law_spot, runF_ap, runK_ret, runK_nx, runK_err, evSs_cs, evSs_nil, nxtS_nx, nxtS_ret, nxtS_err, nxtS_brk, nxtS_cont, bs_ok, bs_err, oo_some, selS_t, selS_f, evS_pass, evS_expr, evS_set, evS_par, evS_ret, evS_retN, evS_brk, evS_cont, evS_ite, evS_jput, evS_raise, evS_try, tryK, ev_var, ev_cst, ev_bin, ev_neg, ev_not, ev_cmp, ev_chain, ev_and, ev_or, ev_ite, ev_tup, ev_lst, ev_idx, ev_slc, ev_call, ev_bi, ev_isi, evs_nil, evs_cons, evo_none, evo_some, andK_bt, andK_bf, orK_bt, orK_bf, iteK_bt, iteK_bf, rb_ok, rb_err, mb_ap, mp_ap, lift_ap, gv_z, gv_s, List.map_cons, List.map_nil, List.length_cons, List.length_nil, List.length_set, List.replicate, List.cons_append, List.nil_append, Nat.reduceAdd, Nat.reduceSub, List.set_cons_zero, List.set_cons_succ, List.getElem?_cons_succ, List.getElem?_cons_zero, Option.map_some, Option.bind_some, assignN, setAll2, setAll3, setAll_nil, bin_add, bin_sub, bin_mul, bin_fdiv, bin_mod, bin_pow, cmp_lt, cmp_le, cmp_gt, cmp_ge, cmp_eqi, cmp_nei, negD_int, tru_bl, bi_int, bi_bl, bi_abs, bi_gcd, bi_lenl, bi_lent, isInt_int, jix, idxT0, idxT1, idxL0, idxL1, decide_true, decide_false, Bool.not_true, Bool.not_false, handle, ev_comp', noErr_ap, noErrR_ok, compL_nil, compL_cons, consO_s, consO_n, compT_ap, selT_t, selT_f, evt_nil, evt_cons, selE_t, selE_f, wipeE_nil, wipeE_cons, it_t, it_l, it_e, it_z, it_r, evS_loop, evH, evS_setT, assignTT, assignTL, assigns_nil, assigns_cons, Nat.reduceLT, if_true, if_false, isN_bb', notN_bb, notN_non, isN_non, isN_int, bi_lst_t, bi_lst_l, bi_tup_l, bi_tup_t, forK_nx, forK_cont, forK_brk, forK_ret, forK_err, forL_nil, fn__law_spot__law_drawn, e1, e2]
end LK
namespace LK
open PySem DE
theorem fd_one {p : Int × Int} (h : p.2 = 1) : nOf (.int p.1) = p := by obtain ⟨a, b⟩ := p; dsimp only at h; subst h; rfl
def passElt : C := (.ite (.and (.cmp .eq (.idx (.var 3) (.cst (.int 1))) (.cst (.int 1))) (.cmp .eq (.call "_law_fill" [(.var 0), (.cst (.int 2))]) (.cst (.int 0)))) (.idx (.var 3) (.cst (.int 0))) (.ite (.cmp .eq (.call "_law_fill" [(.var 0), (.cst (.int 3))]) (.cst (.int 0))) (.bi .list [(.var 3)]) (.var 3)))
theorem pass1 {n : Nat} {st : S} {p : Int × Int} [f : FD p] {x1 x2 x3 : Sl} (J : JS n st) (hn : n ≤ 1000000 - 4 := by omega) : Oks (noErr (compT (.nm 3) [3] [.val .jug, x1, x2, x3] (evt g__law_passed []) (ev g__law_passed passElt) (dP p)) st) fun o st' => ∃ d, o = some d ∧ NmR d p ∧ JS (n + 2) st' := by
  obtain ⟨_, st1, e1, r1, rfl, a1, b1, J1⟩ := s_fill (many := 2) J
  have bl : biD .list [dP p] = some (.lst [.int p.1, .int p.2]) := rfl
  by_cases g : p.2 = 1
  · have g' : decide (p.2 = 1) = true := decide_eq_true g
    obtain ⟨_, st2, e2, r2, rfl, a2, b2, J2⟩ := s_fill (many := 3) J1
    by_cases h : r1 = 0
    · have h' : decide (r1 = 0) = true := decide_eq_true h
      refine ⟨_, st1, ?_, .int p.1, rfl, ⟨rfl, fd_one g⟩, J1.mono (by omega)⟩
      simp only [passElt, dP, runF_ap, runK_ret, runK_nx, runK_err, evSs_cs, evSs_nil, nxtS_nx, nxtS_ret, nxtS_err, nxtS_brk, nxtS_cont, bs_ok, bs_err, oo_some, selS_t, selS_f, evS_pass, evS_expr, evS_set, evS_par, evS_ret, evS_retN, evS_brk, evS_cont, evS_ite, evS_jput, evS_raise, evS_try, tryK, ev_var, ev_cst, ev_bin, ev_neg, ev_not, ev_cmp, ev_chain, ev_and, ev_or, ev_ite, ev_tup, ev_lst, ev_idx, ev_slc, ev_call, ev_bi, ev_isi, evs_nil, evs_cons, evo_none, evo_some, andK_bt, andK_bf, orK_bt, orK_bf, iteK_bt, iteK_bf, rb_ok, rb_err, mb_ap, mp_ap, lift_ap, gv_z, gv_s, List.map_cons, List.map_nil, List.length_cons, List.length_nil, List.length_set, List.replicate, List.cons_append, List.nil_append, Nat.reduceAdd, Nat.reduceSub, List.set_cons_zero, List.set_cons_succ, List.getElem?_cons_succ, List.getElem?_cons_zero, Option.map_some, Option.bind_some, assignN, setAll2, setAll3, setAll_nil, bin_add, bin_sub, bin_mul, bin_fdiv, bin_mod, bin_pow, cmp_lt, cmp_le, cmp_gt, cmp_ge, cmp_eqi, cmp_nei, negD_int, tru_bl, bi_int, bi_bl, bi_abs, bi_gcd, bi_lenl, bi_lent, isInt_int, jix, idxT0, idxT1, idxL0, idxL1, decide_true, decide_false, Bool.not_true, Bool.not_false, handle, ev_comp', noErr_ap, noErrR_ok, compL_nil, compL_cons, consO_s, consO_n, compT_ap, selT_t, selT_f, evt_nil, evt_cons, selE_t, selE_f, wipeE_nil, wipeE_cons, it_t, it_l, it_e, it_z, it_r, evS_loop, evH, evS_setT, assignTT, assignTL, assigns_nil, assigns_cons, Nat.reduceLT, if_true, if_false, isN_bb', notN_bb, notN_non, isN_non, isN_int, bi_lst_t, bi_lst_l, bi_tup_l, bi_tup_t, forK_nx, forK_cont, forK_brk, forK_ret, forK_err, forL_nil, fn__law_passed__law_fill, e1, g', h', Nat.reduceLT, if_true]
    · have h' : decide (r1 = 0) = false := decide_eq_false h
      by_cases q : r2 = 0
      · have q' : decide (r2 = 0) = true := decide_eq_true q
        refine ⟨_, st2, ?_, .lst [.int p.1, .int p.2], rfl, inferInstance, J2.mono (by omega)⟩
        simp only [passElt, dP, runF_ap, runK_ret, runK_nx, runK_err, evSs_cs, evSs_nil, nxtS_nx, nxtS_ret, nxtS_err, nxtS_brk, nxtS_cont, bs_ok, bs_err, oo_some, selS_t, selS_f, evS_pass, evS_expr, evS_set, evS_par, evS_ret, evS_retN, evS_brk, evS_cont, evS_ite, evS_jput, evS_raise, evS_try, tryK, ev_var, ev_cst, ev_bin, ev_neg, ev_not, ev_cmp, ev_chain, ev_and, ev_or, ev_ite, ev_tup, ev_lst, ev_idx, ev_slc, ev_call, ev_bi, ev_isi, evs_nil, evs_cons, evo_none, evo_some, andK_bt, andK_bf, orK_bt, orK_bf, iteK_bt, iteK_bf, rb_ok, rb_err, mb_ap, mp_ap, lift_ap, gv_z, gv_s, List.map_cons, List.map_nil, List.length_cons, List.length_nil, List.length_set, List.replicate, List.cons_append, List.nil_append, Nat.reduceAdd, Nat.reduceSub, List.set_cons_zero, List.set_cons_succ, List.getElem?_cons_succ, List.getElem?_cons_zero, Option.map_some, Option.bind_some, assignN, setAll2, setAll3, setAll_nil, bin_add, bin_sub, bin_mul, bin_fdiv, bin_mod, bin_pow, cmp_lt, cmp_le, cmp_gt, cmp_ge, cmp_eqi, cmp_nei, negD_int, tru_bl, bi_int, bi_bl, bi_abs, bi_gcd, bi_lenl, bi_lent, isInt_int, jix, idxT0, idxT1, idxL0, idxL1, decide_true, decide_false, Bool.not_true, Bool.not_false, handle, ev_comp', noErr_ap, noErrR_ok, compL_nil, compL_cons, consO_s, consO_n, compT_ap, selT_t, selT_f, evt_nil, evt_cons, selE_t, selE_f, wipeE_nil, wipeE_cons, it_t, it_l, it_e, it_z, it_r, evS_loop, evH, evS_setT, assignTT, assignTL, assigns_nil, assigns_cons, Nat.reduceLT, if_true, if_false, isN_bb', notN_bb, notN_non, isN_non, isN_int, bi_lst_t, bi_lst_l, bi_tup_l, bi_tup_t, forK_nx, forK_cont, forK_brk, forK_ret, forK_err, forL_nil, fn__law_passed__law_fill, e1, e2, g', h', q', bl, Nat.reduceLT, if_true]
      · have q' : decide (r2 = 0) = false := decide_eq_false q
        refine ⟨_, st2, ?_, dP p, rfl, inferInstance, J2.mono (by omega)⟩
        simp only [passElt, dP, runF_ap, runK_ret, runK_nx, runK_err, evSs_cs, evSs_nil, nxtS_nx, nxtS_ret, nxtS_err, nxtS_brk, nxtS_cont, bs_ok, bs_err, oo_some, selS_t, selS_f, evS_pass, evS_expr, evS_set, evS_par, evS_ret, evS_retN, evS_brk, evS_cont, evS_ite, evS_jput, evS_raise, evS_try, tryK, ev_var, ev_cst, ev_bin, ev_neg, ev_not, ev_cmp, ev_chain, ev_and, ev_or, ev_ite, ev_tup, ev_lst, ev_idx, ev_slc, ev_call, ev_bi, ev_isi, evs_nil, evs_cons, evo_none, evo_some, andK_bt, andK_bf, orK_bt, orK_bf, iteK_bt, iteK_bf, rb_ok, rb_err, mb_ap, mp_ap, lift_ap, gv_z, gv_s, List.map_cons, List.map_nil, List.length_cons, List.length_nil, List.length_set, List.replicate, List.cons_append, List.nil_append, Nat.reduceAdd, Nat.reduceSub, List.set_cons_zero, List.set_cons_succ, List.getElem?_cons_succ, List.getElem?_cons_zero, Option.map_some, Option.bind_some, assignN, setAll2, setAll3, setAll_nil, bin_add, bin_sub, bin_mul, bin_fdiv, bin_mod, bin_pow, cmp_lt, cmp_le, cmp_gt, cmp_ge, cmp_eqi, cmp_nei, negD_int, tru_bl, bi_int, bi_bl, bi_abs, bi_gcd, bi_lenl, bi_lent, isInt_int, jix, idxT0, idxT1, idxL0, idxL1, decide_true, decide_false, Bool.not_true, Bool.not_false, handle, ev_comp', noErr_ap, noErrR_ok, compL_nil, compL_cons, consO_s, consO_n, compT_ap, selT_t, selT_f, evt_nil, evt_cons, selE_t, selE_f, wipeE_nil, wipeE_cons, it_t, it_l, it_e, it_z, it_r, evS_loop, evH, evS_setT, assignTT, assignTL, assigns_nil, assigns_cons, Nat.reduceLT, if_true, if_false, isN_bb', notN_bb, notN_non, isN_non, isN_int, bi_lst_t, bi_lst_l, bi_tup_l, bi_tup_t, forK_nx, forK_cont, forK_brk, forK_ret, forK_err, forL_nil, fn__law_passed__law_fill, e1, e2, g', h', q', bl, Nat.reduceLT, if_true]
  · have g' : decide (p.2 = 1) = false := decide_eq_false g
    obtain ⟨_, st2, e2, r2, rfl, a2, b2, J2⟩ := s_fill (many := 3) J
    by_cases q : r2 = 0
    · have q' : decide (r2 = 0) = true := decide_eq_true q
      refine ⟨_, st2, ?_, .lst [.int p.1, .int p.2], rfl, inferInstance, J2.mono (by omega)⟩
      simp only [passElt, dP, runF_ap, runK_ret, runK_nx, runK_err, evSs_cs, evSs_nil, nxtS_nx, nxtS_ret, nxtS_err, nxtS_brk, nxtS_cont, bs_ok, bs_err, oo_some, selS_t, selS_f, evS_pass, evS_expr, evS_set, evS_par, evS_ret, evS_retN, evS_brk, evS_cont, evS_ite, evS_jput, evS_raise, evS_try, tryK, ev_var, ev_cst, ev_bin, ev_neg, ev_not, ev_cmp, ev_chain, ev_and, ev_or, ev_ite, ev_tup, ev_lst, ev_idx, ev_slc, ev_call, ev_bi, ev_isi, evs_nil, evs_cons, evo_none, evo_some, andK_bt, andK_bf, orK_bt, orK_bf, iteK_bt, iteK_bf, rb_ok, rb_err, mb_ap, mp_ap, lift_ap, gv_z, gv_s, List.map_cons, List.map_nil, List.length_cons, List.length_nil, List.length_set, List.replicate, List.cons_append, List.nil_append, Nat.reduceAdd, Nat.reduceSub, List.set_cons_zero, List.set_cons_succ, List.getElem?_cons_succ, List.getElem?_cons_zero, Option.map_some, Option.bind_some, assignN, setAll2, setAll3, setAll_nil, bin_add, bin_sub, bin_mul, bin_fdiv, bin_mod, bin_pow, cmp_lt, cmp_le, cmp_gt, cmp_ge, cmp_eqi, cmp_nei, negD_int, tru_bl, bi_int, bi_bl, bi_abs, bi_gcd, bi_lenl, bi_lent, isInt_int, jix, idxT0, idxT1, idxL0, idxL1, decide_true, decide_false, Bool.not_true, Bool.not_false, handle, ev_comp', noErr_ap, noErrR_ok, compL_nil, compL_cons, consO_s, consO_n, compT_ap, selT_t, selT_f, evt_nil, evt_cons, selE_t, selE_f, wipeE_nil, wipeE_cons, it_t, it_l, it_e, it_z, it_r, evS_loop, evH, evS_setT, assignTT, assignTL, assigns_nil, assigns_cons, Nat.reduceLT, if_true, if_false, isN_bb', notN_bb, notN_non, isN_non, isN_int, bi_lst_t, bi_lst_l, bi_tup_l, bi_tup_t, forK_nx, forK_cont, forK_brk, forK_ret, forK_err, forL_nil, fn__law_passed__law_fill, e2, g', q', bl, Nat.reduceLT, if_true]
    · have q' : decide (r2 = 0) = false := decide_eq_false q
      refine ⟨_, st2, ?_, dP p, rfl, inferInstance, J2.mono (by omega)⟩
      simp only [passElt, dP, runF_ap, runK_ret, runK_nx, runK_err, evSs_cs, evSs_nil, nxtS_nx, nxtS_ret, nxtS_err, nxtS_brk, nxtS_cont, bs_ok, bs_err, oo_some, selS_t, selS_f, evS_pass, evS_expr, evS_set, evS_par, evS_ret, evS_retN, evS_brk, evS_cont, evS_ite, evS_jput, evS_raise, evS_try, tryK, ev_var, ev_cst, ev_bin, ev_neg, ev_not, ev_cmp, ev_chain, ev_and, ev_or, ev_ite, ev_tup, ev_lst, ev_idx, ev_slc, ev_call, ev_bi, ev_isi, evs_nil, evs_cons, evo_none, evo_some, andK_bt, andK_bf, orK_bt, orK_bf, iteK_bt, iteK_bf, rb_ok, rb_err, mb_ap, mp_ap, lift_ap, gv_z, gv_s, List.map_cons, List.map_nil, List.length_cons, List.length_nil, List.length_set, List.replicate, List.cons_append, List.nil_append, Nat.reduceAdd, Nat.reduceSub, List.set_cons_zero, List.set_cons_succ, List.getElem?_cons_succ, List.getElem?_cons_zero, Option.map_some, Option.bind_some, assignN, setAll2, setAll3, setAll_nil, bin_add, bin_sub, bin_mul, bin_fdiv, bin_mod, bin_pow, cmp_lt, cmp_le, cmp_gt, cmp_ge, cmp_eqi, cmp_nei, negD_int, tru_bl, bi_int, bi_bl, bi_abs, bi_gcd, bi_lenl, bi_lent, isInt_int, jix, idxT0, idxT1, idxL0, idxL1, decide_true, decide_false, Bool.not_true, Bool.not_false, handle, ev_comp', noErr_ap, noErrR_ok, compL_nil, compL_cons, consO_s, consO_n, compT_ap, selT_t, selT_f, evt_nil, evt_cons, selE_t, selE_f, wipeE_nil, wipeE_cons, it_t, it_l, it_e, it_z, it_r, evS_loop, evH, evS_setT, assignTT, assignTL, assigns_nil, assigns_cons, Nat.reduceLT, if_true, if_false, isN_bb', notN_bb, notN_non, isN_non, isN_int, bi_lst_t, bi_lst_l, bi_tup_l, bi_tup_t, forK_nx, forK_cont, forK_brk, forK_ret, forK_err, forL_nil, fn__law_passed__law_fill, e2, g', q', bl, Nat.reduceLT, if_true]
theorem ble_rfl {a b : Nat} (h : a ≤ b) : Nat.ble a b = true := Nat.ble_eq_true_of_le h
theorem s_passed {n : Nat} {st : S} {p q : Int × Int} [f : FD p] [g : FD q] (J : JS n st) (hn : n ≤ 1000000 - 10 := by omega) : Oks (F__law_passed [.jug, .tup [dP p, dP q]] st) fun d st' => ∃ x y, (d = .tup [x, y] ∨ d = .lst [x, y]) ∧ NmR x p ∧ NmR y q ∧ JS (n + 5) st' := by
  obtain ⟨_, st1, e1, x, rfl, hx, J1⟩ := pass1 (x1 := .val (.tup [dP p, dP q])) (x2 := .non) (x3 := .non) (p := p) J
  obtain ⟨_, st2, e2, y, rfl, hy, J2⟩ := pass1 (x1 := .val (.tup [dP p, dP q])) (x2 := .non) (x3 := .non) (p := q) J1
  obtain ⟨_, st3, e3, r, rfl, a1, b1, J3⟩ := s_fill (many := 2) J2
  unfold passElt at e1 e2
  have cp : compL (fun x => noErr (compT (.nm 3) [3] [.val .jug, .val (.tup [dP p, dP q]), .non, .non] (evt g__law_passed []) (ev g__law_passed passElt) x)) [dP p, dP q] st = .ok [x, y] st2 := by
    unfold passElt
    simp only [compL_cons, compL_nil, e1, e2, rb_ok, mb_ap, mp_ap, consO_s]
  unfold passElt at cp
  have fw : few [dP p, dP q] = some [dP p, dP q] := few_ok rfl
  have cv : ev g__law_passed (.comp passElt (.nm 3) .val [.var 1] [] [3]) [.val .jug, .val (.tup [dP p, dP q]), .non, .non] st = .ok (.lst [x, y]) st2 := by
    rw [ev_comp']
    simp only [evs_cons, evs_nil, ev_var, gv_z, gv_s, rb_ok, mb_ap, mp_ap, lift_ap, it_t, fw, passElt, cp]
  unfold passElt at cv
  by_cases h : r = 0
  · have h' : decide (r = 0) = true := decide_eq_true h
    refine ⟨_, st3, ?_, x, y, .inr rfl, hx, hy, J3.mono (by omega)⟩
    simp only [F__law_passed, cs__law_passed, runF_ap, runK_ret, evSs_cs, evSs_nil, nxtS_nx, nxtS_ret, List.map_cons, List.map_nil, List.length_cons, List.length_nil, Nat.reduceAdd, Nat.reduceSub, List.replicate, List.cons_append, List.nil_append, evS_set, cv]
    simp only [runF_ap, runK_ret, runK_nx, runK_err, evSs_cs, evSs_nil, nxtS_nx, nxtS_ret, nxtS_err, nxtS_brk, nxtS_cont, bs_ok, bs_err, oo_some, selS_t, selS_f, evS_pass, evS_expr, evS_set, evS_par, evS_ret, evS_retN, evS_brk, evS_cont, evS_ite, evS_jput, evS_raise, evS_try, tryK, ev_var, ev_cst, ev_bin, ev_neg, ev_not, ev_cmp, ev_chain, ev_and, ev_or, ev_ite, ev_tup, ev_lst, ev_idx, ev_slc, ev_call, ev_bi, ev_isi, evs_nil, evs_cons, evo_none, evo_some, andK_bt, andK_bf, orK_bt, orK_bf, iteK_bt, iteK_bf, rb_ok, rb_err, mb_ap, mp_ap, lift_ap, gv_z, gv_s, List.map_cons, List.map_nil, List.length_cons, List.length_nil, List.length_set, List.replicate, List.cons_append, List.nil_append, Nat.reduceAdd, Nat.reduceSub, List.set_cons_zero, List.set_cons_succ, List.getElem?_cons_succ, List.getElem?_cons_zero, Option.map_some, Option.bind_some, assignN, setAll2, setAll3, setAll_nil, bin_add, bin_sub, bin_mul, bin_fdiv, bin_mod, bin_pow, cmp_lt, cmp_le, cmp_gt, cmp_ge, cmp_eqi, cmp_nei, negD_int, tru_bl, bi_int, bi_bl, bi_abs, bi_gcd, bi_lenl, bi_lent, isInt_int, jix, idxT0, idxT1, idxL0, idxL1, decide_true, decide_false, Bool.not_true, Bool.not_false, handle, ev_comp', noErr_ap, noErrR_ok, compL_nil, compL_cons, consO_s, consO_n, compT_ap, selT_t, selT_f, evt_nil, evt_cons, selE_t, selE_f, wipeE_nil, wipeE_cons, it_t, it_l, it_e, it_z, it_r, evS_loop, evH, evS_setT, assignTT, assignTL, assigns_nil, assigns_cons, Nat.reduceLT, if_true, if_false, isN_bb', notN_bb, notN_non, isN_non, isN_int, bi_lst_t, bi_lst_l, bi_tup_l, bi_tup_t, forK_nx, forK_cont, forK_brk, forK_ret, forK_err, forL_nil, fn__law_passed__law_fill, e3, h', Nat.reduceLT, if_true]
  · have h' : decide (r = 0) = false := decide_eq_false h
    refine ⟨_, st3, ?_, x, y, .inl rfl, hx, hy, J3.mono (by omega)⟩
    simp only [F__law_passed, cs__law_passed, runF_ap, runK_ret, evSs_cs, evSs_nil, nxtS_nx, nxtS_ret, List.map_cons, List.map_nil, List.length_cons, List.length_nil, Nat.reduceAdd, Nat.reduceSub, List.replicate, List.cons_append, List.nil_append, evS_set, cv]
    simp only [runF_ap, runK_ret, runK_nx, runK_err, evSs_cs, evSs_nil, nxtS_nx, nxtS_ret, nxtS_err, nxtS_brk, nxtS_cont, bs_ok, bs_err, oo_some, selS_t, selS_f, evS_pass, evS_expr, evS_set, evS_par, evS_ret, evS_retN, evS_brk, evS_cont, evS_ite, evS_jput, evS_raise, evS_try, tryK, ev_var, ev_cst, ev_bin, ev_neg, ev_not, ev_cmp, ev_chain, ev_and, ev_or, ev_ite, ev_tup, ev_lst, ev_idx, ev_slc, ev_call, ev_bi, ev_isi, evs_nil, evs_cons, evo_none, evo_some, andK_bt, andK_bf, orK_bt, orK_bf, iteK_bt, iteK_bf, rb_ok, rb_err, mb_ap, mp_ap, lift_ap, gv_z, gv_s, List.map_cons, List.map_nil, List.length_cons, List.length_nil, List.length_set, List.replicate, List.cons_append, List.nil_append, Nat.reduceAdd, Nat.reduceSub, List.set_cons_zero, List.set_cons_succ, List.getElem?_cons_succ, List.getElem?_cons_zero, Option.map_some, Option.bind_some, assignN, setAll2, setAll3, setAll_nil, bin_add, bin_sub, bin_mul, bin_fdiv, bin_mod, bin_pow, cmp_lt, cmp_le, cmp_gt, cmp_ge, cmp_eqi, cmp_nei, negD_int, tru_bl, bi_int, bi_bl, bi_abs, bi_gcd, bi_lenl, bi_lent, isInt_int, jix, idxT0, idxT1, idxL0, idxL1, decide_true, decide_false, Bool.not_true, Bool.not_false, handle, ev_comp', noErr_ap, noErrR_ok, compL_nil, compL_cons, consO_s, consO_n, compT_ap, selT_t, selT_f, evt_nil, evt_cons, selE_t, selE_f, wipeE_nil, wipeE_cons, it_t, it_l, it_e, it_z, it_r, evS_loop, evH, evS_setT, assignTT, assignTL, assigns_nil, assigns_cons, Nat.reduceLT, if_true, if_false, isN_bb', notN_bb, notN_non, isN_non, isN_int, bi_lst_t, bi_lst_l, bi_tup_l, bi_tup_t, forK_nx, forK_cont, forK_brk, forK_ret, forK_err, forL_nil, fn__law_passed__law_fill, e3, h', Nat.reduceLT, if_true]
end LK
namespace LK
open PySem DE
theorem low_neg {t u : Int} (h : u ≠ 0) : low (-t) u = negF (low t u) := by
  have f := low_fr (t := t) h
  have e := low_eq (t := t) h
  refine low_is h ⟨f.1, ?_⟩ ?_
  · show Nat.gcd (-(low t u).1).natAbs (low t u).2.natAbs = 1
    rw [Int.natAbs_neg]; exact f.2
  · grind
theorem sub_flip {a b : Int × Int} (ha : a.2 ≠ 0) (hb : b.2 ≠ 0) : subF a b = negF (subF b a) := by
  unfold subF
  rw [← low_neg (Int.mul_ne_zero hb ha)]
  congr 1
  · omega
  · exact Int.mul_comm _ _
theorem sq_flip {a b : Int × Int} (ha : a.2 ≠ 0) (hb : b.2 ≠ 0) : mulF (subF a b) (subF a b) = mulF (subF b a) (subF b a) := by
  rw [sub_flip ha hb]
  unfold mulF negF
  rw [Int.neg_mul_neg]
theorem sums_core {one other x0 y0 : D} {a b c d s : Int × Int} {st : S} {x1 : Sl} {z5 z6 : Sl} [FD a] [FD b] [FD c] [FD d] [FD s] (ho : one = .tup [x0, y0] ∨ one = .lst [x0, y0]) [NmR x0 a] [NmR y0 b] [PtR other c d] :
    evSs g__law_sums_right (cs__law_sums_right.drop 3) [.val .jug, x1, .val (dP s), .val one, .val other, z5, z6, .val (dP a), .val (dP b), .val (dP c), .val (dP d)] st = .ret (.bl true) st := by
  have q1 := sq_flip (a := a) (b := c) FB.ne' FB.ne'
  have q2 := sq_flip (a := b) (b := d) FB.ne' FB.ne'
  haveI : PtR one a b := ⟨x0, y0, ho, inferInstance, inferInstance⟩
  have i0 : ∀ st, idxM one (.int 0) st = .ok x0 st := fun st => by rcases ho with rfl | rfl <;> first | exact idxT0 | exact idxL0
  have i1 : ∀ st, idxM one (.int 1) st = .ok y0 st := fun st => by rcases ho with rfl | rfl <;> first | exact idxT1 | exact idxL1
  simp (decide := true) only [cs__law_sums_right, List.drop_succ_cons, List.drop_zero, runF_ap, runK_ret, runK_nx, runK_err, evSs_cs, evSs_nil, nxtS_nx, nxtS_ret, nxtS_err, nxtS_brk, nxtS_cont, bs_ok, bs_err, oo_some, selS_t, selS_f, evS_pass, evS_expr, evS_set, evS_par, evS_ret, evS_retN, evS_brk, evS_cont, evS_ite, evS_jput, evS_raise, evS_try, tryK, ev_var, ev_cst, ev_bin, ev_neg, ev_not, ev_cmp, ev_chain, ev_and, ev_or, ev_ite, ev_tup, ev_lst, ev_idx, ev_slc, ev_call, ev_bi, ev_isi, evs_nil, evs_cons, evo_none, evo_some, andK_bt, andK_bf, orK_bt, orK_bf, iteK_bt, iteK_bf, rb_ok, rb_err, mb_ap, mp_ap, lift_ap, gv_z, gv_s, List.map_cons, List.map_nil, List.length_cons, List.length_nil, List.length_set, List.replicate, List.cons_append, List.nil_append, Nat.reduceAdd, Nat.reduceSub, List.set_cons_zero, List.set_cons_succ, List.getElem?_cons_succ, List.getElem?_cons_zero, Option.map_some, Option.bind_some, assignN, setAll2, setAll3, setAll_nil, bin_add, bin_sub, bin_mul, bin_fdiv, bin_mod, bin_pow, cmp_lt, cmp_le, cmp_gt, cmp_ge, cmp_eqi, cmp_nei, negD_int, tru_bl, bi_int, bi_bl, bi_abs, bi_gcd, bi_lenl, bi_lent, isInt_int, jix, idxT0, idxT1, idxL0, idxL1, decide_true, decide_false, Bool.not_true, Bool.not_false, handle, ev_comp', noErr_ap, noErrR_ok, compL_nil, compL_cons, consO_s, consO_n, compT_ap, selT_t, selT_f, evt_nil, evt_cons, selE_t, selE_f, wipeE_nil, wipeE_cons, it_t, it_l, it_e, it_z, it_r, evS_loop, evH, evS_setT, assignTT, assignTL, assigns_nil, assigns_cons, Nat.reduceLT, if_true, if_false, isN_bb', notN_bb, notN_non, isN_non, isN_int, bi_lst_t, bi_lst_l, bi_tup_l, bi_tup_t, forK_nx, forK_cont, forK_brk, forK_ret, forK_err, forL_nil, fn__law_sums_right_added, fn__law_sums_right_taken, fn__law_sums_right_point, fn__law_sums_right_cross, fn__law_sums_right_dot, fn__law_sums_right_squared, fn__law_sums_right_quarter, fn__law_sums_right_scaled, fn__law_sums_right_between, fn__law_sums_right_is_point,
      fn__law_sums_right__law_sum, fn__law_sums_right__law_less, fn__law_sums_right__law_product, i0, i1, s_added, s_taken, s_point, s_cross, s_dot, s_squared, s_quarter, s_scaled, s_between, s_is_point, s_sum, s_less, s_product, ne_self, repr_tup, ne_sh, eq_sh, q1, q2]
theorem s_sums {n : Nat} {st : S} (J : JS n st) (hn : n ≤ 1000000 - 80 := by omega) : Oks (F__law_sums_right [.jug] st) fun d st' => d = .bl true ∧ JS (n + 60) st' := by
  obtain ⟨_, st1, e1, a, b, rfl, fa, fb, J1⟩ := s_spot J
  obtain ⟨_, st2, e2, c, d, rfl, fc, fd, J2⟩ := s_spot J1
  obtain ⟨_, st3, e3, s, rfl, fs, J3⟩ := s_drawn J2
  obtain ⟨_, st4, e4, r, rfl, r0, r1, J4⟩ := s_fill (many := 6) J3
  obtain ⟨one, st5, e5, x0, y0, ho, hx, hy, J5⟩ := s_passed (p := a) (q := b) J4
  have hs : ∀ R : List CS, R = cs__law_sums_right.drop 3 → F__law_sums_right [.jug] st = runK (evSs g__law_sums_right (cs__law_sums_right.take 3 ++ R) [.val .jug, .non, .non, .non, .non, .non, .non, .non, .non, .non, .non] st) := fun R hR => by
    rw [hR, List.take_append_drop]
    exact runF_ap
  by_cases g : r = 0
  · have g' : decide (r = 0) = true := decide_eq_true g
    obtain ⟨other, st6, e6, x1, y1, ho1, hx1, hy1, J6⟩ := s_passed (p := a) (q := b) J5
    haveI : PtR other a b := ⟨x1, y1, ho1, hx1, hy1⟩
    refine ⟨_, st6, ?_, rfl, J6.mono (by omega)⟩
    have fin := @sums_core one other x0 y0 a b a b s st6 .non .non .non fa fb fa fb fs ho hx hy _
    have hs := hs _ rfl
    generalize cs__law_sums_right.drop 3 = R at hs fin
    rw [hs]
    simp only [cs__law_sums_right, List.take_succ_cons, List.take_zero, runF_ap, runK_ret, runK_nx, runK_err, evSs_cs, evSs_nil, nxtS_nx, nxtS_ret, nxtS_err, nxtS_brk, nxtS_cont, bs_ok, bs_err, oo_some, selS_t, selS_f, evS_pass, evS_expr, evS_set, evS_par, evS_ret, evS_retN, evS_brk, evS_cont, evS_ite, evS_jput, evS_raise, evS_try, tryK, ev_var, ev_cst, ev_bin, ev_neg, ev_not, ev_cmp, ev_chain, ev_and, ev_or, ev_ite, ev_tup, ev_lst, ev_idx, ev_slc, ev_call, ev_bi, ev_isi, evs_nil, evs_cons, evo_none, evo_some, andK_bt, andK_bf, orK_bt, orK_bf, iteK_bt, iteK_bf, rb_ok, rb_err, mb_ap, mp_ap, lift_ap, gv_z, gv_s, List.map_cons, List.map_nil, List.length_cons, List.length_nil, List.length_set, List.replicate, List.cons_append, List.nil_append, Nat.reduceAdd, Nat.reduceSub, List.set_cons_zero, List.set_cons_succ, List.getElem?_cons_succ, List.getElem?_cons_zero, Option.map_some, Option.bind_some, assignN, setAll2, setAll3, setAll_nil, bin_add, bin_sub, bin_mul, bin_fdiv, bin_mod, bin_pow, cmp_lt, cmp_le, cmp_gt, cmp_ge, cmp_eqi, cmp_nei, negD_int, tru_bl, bi_int, bi_bl, bi_abs, bi_gcd, bi_lenl, bi_lent, isInt_int, jix, idxT0, idxT1, idxL0, idxL1, decide_true, decide_false, Bool.not_true, Bool.not_false, handle, ev_comp', noErr_ap, noErrR_ok, compL_nil, compL_cons, consO_s, consO_n, compT_ap, selT_t, selT_f, evt_nil, evt_cons, selE_t, selE_f, wipeE_nil, wipeE_cons, it_t, it_l, it_e, it_z, it_r, evS_loop, evH, evS_setT, assignTT, assignTL, assigns_nil, assigns_cons, Nat.reduceLT, if_true, if_false, isN_bb', notN_bb, notN_non, isN_non, isN_int, bi_lst_t, bi_lst_l, bi_tup_l, bi_tup_t, forK_nx, forK_cont, forK_brk, forK_ret, forK_err, forL_nil, fn__law_sums_right__law_spot, fn__law_sums_right__law_drawn, fn__law_sums_right__law_fill, fn__law_sums_right__law_passed, e1, e2, e3, e4, e5, e6, g', fin]
  · have g' : decide (r = 0) = false := decide_eq_false g
    obtain ⟨other, st6, e6, x1, y1, ho1, hx1, hy1, J6⟩ := s_passed (p := c) (q := d) J5
    haveI : PtR other c d := ⟨x1, y1, ho1, hx1, hy1⟩
    refine ⟨_, st6, ?_, rfl, J6.mono (by omega)⟩
    have fin := @sums_core one other x0 y0 a b c d s st6 .non .non .non fa fb fc fd fs ho hx hy _
    have hs := hs _ rfl
    generalize cs__law_sums_right.drop 3 = R at hs fin
    rw [hs]
    simp only [cs__law_sums_right, List.take_succ_cons, List.take_zero, runF_ap, runK_ret, runK_nx, runK_err, evSs_cs, evSs_nil, nxtS_nx, nxtS_ret, nxtS_err, nxtS_brk, nxtS_cont, bs_ok, bs_err, oo_some, selS_t, selS_f, evS_pass, evS_expr, evS_set, evS_par, evS_ret, evS_retN, evS_brk, evS_cont, evS_ite, evS_jput, evS_raise, evS_try, tryK, ev_var, ev_cst, ev_bin, ev_neg, ev_not, ev_cmp, ev_chain, ev_and, ev_or, ev_ite, ev_tup, ev_lst, ev_idx, ev_slc, ev_call, ev_bi, ev_isi, evs_nil, evs_cons, evo_none, evo_some, andK_bt, andK_bf, orK_bt, orK_bf, iteK_bt, iteK_bf, rb_ok, rb_err, mb_ap, mp_ap, lift_ap, gv_z, gv_s, List.map_cons, List.map_nil, List.length_cons, List.length_nil, List.length_set, List.replicate, List.cons_append, List.nil_append, Nat.reduceAdd, Nat.reduceSub, List.set_cons_zero, List.set_cons_succ, List.getElem?_cons_succ, List.getElem?_cons_zero, Option.map_some, Option.bind_some, assignN, setAll2, setAll3, setAll_nil, bin_add, bin_sub, bin_mul, bin_fdiv, bin_mod, bin_pow, cmp_lt, cmp_le, cmp_gt, cmp_ge, cmp_eqi, cmp_nei, negD_int, tru_bl, bi_int, bi_bl, bi_abs, bi_gcd, bi_lenl, bi_lent, isInt_int, jix, idxT0, idxT1, idxL0, idxL1, decide_true, decide_false, Bool.not_true, Bool.not_false, handle, ev_comp', noErr_ap, noErrR_ok, compL_nil, compL_cons, consO_s, consO_n, compT_ap, selT_t, selT_f, evt_nil, evt_cons, selE_t, selE_f, wipeE_nil, wipeE_cons, it_t, it_l, it_e, it_z, it_r, evS_loop, evH, evS_setT, assignTT, assignTL, assigns_nil, assigns_cons, Nat.reduceLT, if_true, if_false, isN_bb', notN_bb, notN_non, isN_non, isN_int, bi_lst_t, bi_lst_l, bi_tup_l, bi_tup_t, forK_nx, forK_cont, forK_brk, forK_ret, forK_err, forL_nil, fn__law_sums_right__law_spot, fn__law_sums_right__law_drawn, fn__law_sums_right__law_fill, fn__law_sums_right__law_passed, e1, e2, e3, e4, e5, e6, g', fin]
end LK
namespace LK
open PySem DE
theorem runK_bs {r : Res D} {ρ : DE.Env} : runK (bindS r ρ fun d st' => .ret d st') = r := by cases r <;> rfl
theorem nxt_bs {Γ : Gam} {cs : List CS} {r : Res D} {ρ : DE.Env} : nxtS Γ cs (bindS r ρ fun d st' => .ret d st') = bindS r ρ fun d st' => .ret d st' := by cases r <;> rfl
def third : D := .tup [.int 1, .int 3]
instance nm_third : NmR third (1, 3) := ⟨rfl, rfl⟩
instance fb_third : FB (1, 3) 1 2 := ⟨⟨by decide, by decide⟩, by decide, by decide⟩
section
variable {x y : D} {st : S}
theorem s_done0 : F__law_done [.int 0, x, y] st = F_added [x, y] st := by
  simp only [F__law_done, cs__law_done, runF_ap, runK_ret, runK_nx, runK_err, evSs_cs, evSs_nil, nxtS_nx, nxtS_ret, nxtS_err, nxtS_brk, nxtS_cont, bs_ok, bs_err, oo_some, selS_t, selS_f, evS_pass, evS_expr, evS_set, evS_par, evS_ret, evS_retN, evS_brk, evS_cont, evS_ite, evS_jput, evS_raise, evS_try, tryK, ev_var, ev_cst, ev_bin, ev_neg, ev_not, ev_cmp, ev_chain, ev_and, ev_or, ev_ite, ev_tup, ev_lst, ev_idx, ev_slc, ev_call, ev_bi, ev_isi, evs_nil, evs_cons, evo_none, evo_some, andK_bt, andK_bf, orK_bt, orK_bf, iteK_bt, iteK_bf, rb_ok, rb_err, mb_ap, mp_ap, lift_ap, gv_z, gv_s, List.map_cons, List.map_nil, List.length_cons, List.length_nil, List.length_set, List.replicate, List.cons_append, List.nil_append, Nat.reduceAdd, Nat.reduceSub, List.set_cons_zero, List.set_cons_succ, List.getElem?_cons_succ, List.getElem?_cons_zero, Option.map_some, Option.bind_some, assignN, setAll2, setAll3, setAll_nil, bin_add, bin_sub, bin_mul, bin_fdiv, bin_mod, bin_pow, cmp_lt, cmp_le, cmp_gt, cmp_ge, cmp_eqi, cmp_nei, negD_int, tru_bl, bi_int, bi_bl, bi_abs, bi_gcd, bi_lenl, bi_lent, isInt_int, jix, idxT0, idxT1, idxL0, idxL1, decide_true, decide_false, Bool.not_true, Bool.not_false, handle, ev_comp', noErr_ap, noErrR_ok, compL_nil, compL_cons, consO_s, consO_n, compT_ap, selT_t, selT_f, evt_nil, evt_cons, selE_t, selE_f, wipeE_nil, wipeE_cons, it_t, it_l, it_e, it_z, it_r, evS_loop, evH, evS_setT, assignTT, assignTL, assigns_nil, assigns_cons, Nat.reduceLT, if_true, if_false, isN_bb', notN_bb, notN_non, isN_non, isN_int, bi_lst_t, bi_lst_l, bi_tup_l, bi_tup_t, forK_nx, forK_cont, forK_brk, forK_ret, forK_err, forL_nil, fn__law_done_added, Int.reduceLT, Int.reduceEq, runK_bs, nxt_bs]
theorem s_done1 : F__law_done [.int 1, x, y] st = F_taken [x, y] st := by
  simp only [F__law_done, cs__law_done, runF_ap, runK_ret, runK_nx, runK_err, evSs_cs, evSs_nil, nxtS_nx, nxtS_ret, nxtS_err, nxtS_brk, nxtS_cont, bs_ok, bs_err, oo_some, selS_t, selS_f, evS_pass, evS_expr, evS_set, evS_par, evS_ret, evS_retN, evS_brk, evS_cont, evS_ite, evS_jput, evS_raise, evS_try, tryK, ev_var, ev_cst, ev_bin, ev_neg, ev_not, ev_cmp, ev_chain, ev_and, ev_or, ev_ite, ev_tup, ev_lst, ev_idx, ev_slc, ev_call, ev_bi, ev_isi, evs_nil, evs_cons, evo_none, evo_some, andK_bt, andK_bf, orK_bt, orK_bf, iteK_bt, iteK_bf, rb_ok, rb_err, mb_ap, mp_ap, lift_ap, gv_z, gv_s, List.map_cons, List.map_nil, List.length_cons, List.length_nil, List.length_set, List.replicate, List.cons_append, List.nil_append, Nat.reduceAdd, Nat.reduceSub, List.set_cons_zero, List.set_cons_succ, List.getElem?_cons_succ, List.getElem?_cons_zero, Option.map_some, Option.bind_some, assignN, setAll2, setAll3, setAll_nil, bin_add, bin_sub, bin_mul, bin_fdiv, bin_mod, bin_pow, cmp_lt, cmp_le, cmp_gt, cmp_ge, cmp_eqi, cmp_nei, negD_int, tru_bl, bi_int, bi_bl, bi_abs, bi_gcd, bi_lenl, bi_lent, isInt_int, jix, idxT0, idxT1, idxL0, idxL1, decide_true, decide_false, Bool.not_true, Bool.not_false, handle, ev_comp', noErr_ap, noErrR_ok, compL_nil, compL_cons, consO_s, consO_n, compT_ap, selT_t, selT_f, evt_nil, evt_cons, selE_t, selE_f, wipeE_nil, wipeE_cons, it_t, it_l, it_e, it_z, it_r, evS_loop, evH, evS_setT, assignTT, assignTL, assigns_nil, assigns_cons, Nat.reduceLT, if_true, if_false, isN_bb', notN_bb, notN_non, isN_non, isN_int, bi_lst_t, bi_lst_l, bi_tup_l, bi_tup_t, forK_nx, forK_cont, forK_brk, forK_ret, forK_err, forL_nil, fn__law_done_taken, Int.reduceLT, Int.reduceEq, runK_bs, nxt_bs]
theorem s_done2 : F__law_done [.int 2, x, y] st = F_cross [x, y] st := by
  simp only [F__law_done, cs__law_done, runF_ap, runK_ret, runK_nx, runK_err, evSs_cs, evSs_nil, nxtS_nx, nxtS_ret, nxtS_err, nxtS_brk, nxtS_cont, bs_ok, bs_err, oo_some, selS_t, selS_f, evS_pass, evS_expr, evS_set, evS_par, evS_ret, evS_retN, evS_brk, evS_cont, evS_ite, evS_jput, evS_raise, evS_try, tryK, ev_var, ev_cst, ev_bin, ev_neg, ev_not, ev_cmp, ev_chain, ev_and, ev_or, ev_ite, ev_tup, ev_lst, ev_idx, ev_slc, ev_call, ev_bi, ev_isi, evs_nil, evs_cons, evo_none, evo_some, andK_bt, andK_bf, orK_bt, orK_bf, iteK_bt, iteK_bf, rb_ok, rb_err, mb_ap, mp_ap, lift_ap, gv_z, gv_s, List.map_cons, List.map_nil, List.length_cons, List.length_nil, List.length_set, List.replicate, List.cons_append, List.nil_append, Nat.reduceAdd, Nat.reduceSub, List.set_cons_zero, List.set_cons_succ, List.getElem?_cons_succ, List.getElem?_cons_zero, Option.map_some, Option.bind_some, assignN, setAll2, setAll3, setAll_nil, bin_add, bin_sub, bin_mul, bin_fdiv, bin_mod, bin_pow, cmp_lt, cmp_le, cmp_gt, cmp_ge, cmp_eqi, cmp_nei, negD_int, tru_bl, bi_int, bi_bl, bi_abs, bi_gcd, bi_lenl, bi_lent, isInt_int, jix, idxT0, idxT1, idxL0, idxL1, decide_true, decide_false, Bool.not_true, Bool.not_false, handle, ev_comp', noErr_ap, noErrR_ok, compL_nil, compL_cons, consO_s, consO_n, compT_ap, selT_t, selT_f, evt_nil, evt_cons, selE_t, selE_f, wipeE_nil, wipeE_cons, it_t, it_l, it_e, it_z, it_r, evS_loop, evH, evS_setT, assignTT, assignTL, assigns_nil, assigns_cons, Nat.reduceLT, if_true, if_false, isN_bb', notN_bb, notN_non, isN_non, isN_int, bi_lst_t, bi_lst_l, bi_tup_l, bi_tup_t, forK_nx, forK_cont, forK_brk, forK_ret, forK_err, forL_nil, fn__law_done_cross, Int.reduceLT, Int.reduceEq, runK_bs, nxt_bs]
theorem s_done3 : F__law_done [.int 3, x, y] st = F_dot [x, y] st := by
  simp only [F__law_done, cs__law_done, runF_ap, runK_ret, runK_nx, runK_err, evSs_cs, evSs_nil, nxtS_nx, nxtS_ret, nxtS_err, nxtS_brk, nxtS_cont, bs_ok, bs_err, oo_some, selS_t, selS_f, evS_pass, evS_expr, evS_set, evS_par, evS_ret, evS_retN, evS_brk, evS_cont, evS_ite, evS_jput, evS_raise, evS_try, tryK, ev_var, ev_cst, ev_bin, ev_neg, ev_not, ev_cmp, ev_chain, ev_and, ev_or, ev_ite, ev_tup, ev_lst, ev_idx, ev_slc, ev_call, ev_bi, ev_isi, evs_nil, evs_cons, evo_none, evo_some, andK_bt, andK_bf, orK_bt, orK_bf, iteK_bt, iteK_bf, rb_ok, rb_err, mb_ap, mp_ap, lift_ap, gv_z, gv_s, List.map_cons, List.map_nil, List.length_cons, List.length_nil, List.length_set, List.replicate, List.cons_append, List.nil_append, Nat.reduceAdd, Nat.reduceSub, List.set_cons_zero, List.set_cons_succ, List.getElem?_cons_succ, List.getElem?_cons_zero, Option.map_some, Option.bind_some, assignN, setAll2, setAll3, setAll_nil, bin_add, bin_sub, bin_mul, bin_fdiv, bin_mod, bin_pow, cmp_lt, cmp_le, cmp_gt, cmp_ge, cmp_eqi, cmp_nei, negD_int, tru_bl, bi_int, bi_bl, bi_abs, bi_gcd, bi_lenl, bi_lent, isInt_int, jix, idxT0, idxT1, idxL0, idxL1, decide_true, decide_false, Bool.not_true, Bool.not_false, handle, ev_comp', noErr_ap, noErrR_ok, compL_nil, compL_cons, consO_s, consO_n, compT_ap, selT_t, selT_f, evt_nil, evt_cons, selE_t, selE_f, wipeE_nil, wipeE_cons, it_t, it_l, it_e, it_z, it_r, evS_loop, evH, evS_setT, assignTT, assignTL, assigns_nil, assigns_cons, Nat.reduceLT, if_true, if_false, isN_bb', notN_bb, notN_non, isN_non, isN_int, bi_lst_t, bi_lst_l, bi_tup_l, bi_tup_t, forK_nx, forK_cont, forK_brk, forK_ret, forK_err, forL_nil, fn__law_done_dot, Int.reduceLT, Int.reduceEq, runK_bs, nxt_bs]
theorem s_done4 : F__law_done [.int 4, x, y] st = F_squared [x, y] st := by
  simp only [F__law_done, cs__law_done, runF_ap, runK_ret, runK_nx, runK_err, evSs_cs, evSs_nil, nxtS_nx, nxtS_ret, nxtS_err, nxtS_brk, nxtS_cont, bs_ok, bs_err, oo_some, selS_t, selS_f, evS_pass, evS_expr, evS_set, evS_par, evS_ret, evS_retN, evS_brk, evS_cont, evS_ite, evS_jput, evS_raise, evS_try, tryK, ev_var, ev_cst, ev_bin, ev_neg, ev_not, ev_cmp, ev_chain, ev_and, ev_or, ev_ite, ev_tup, ev_lst, ev_idx, ev_slc, ev_call, ev_bi, ev_isi, evs_nil, evs_cons, evo_none, evo_some, andK_bt, andK_bf, orK_bt, orK_bf, iteK_bt, iteK_bf, rb_ok, rb_err, mb_ap, mp_ap, lift_ap, gv_z, gv_s, List.map_cons, List.map_nil, List.length_cons, List.length_nil, List.length_set, List.replicate, List.cons_append, List.nil_append, Nat.reduceAdd, Nat.reduceSub, List.set_cons_zero, List.set_cons_succ, List.getElem?_cons_succ, List.getElem?_cons_zero, Option.map_some, Option.bind_some, assignN, setAll2, setAll3, setAll_nil, bin_add, bin_sub, bin_mul, bin_fdiv, bin_mod, bin_pow, cmp_lt, cmp_le, cmp_gt, cmp_ge, cmp_eqi, cmp_nei, negD_int, tru_bl, bi_int, bi_bl, bi_abs, bi_gcd, bi_lenl, bi_lent, isInt_int, jix, idxT0, idxT1, idxL0, idxL1, decide_true, decide_false, Bool.not_true, Bool.not_false, handle, ev_comp', noErr_ap, noErrR_ok, compL_nil, compL_cons, consO_s, consO_n, compT_ap, selT_t, selT_f, evt_nil, evt_cons, selE_t, selE_f, wipeE_nil, wipeE_cons, it_t, it_l, it_e, it_z, it_r, evS_loop, evH, evS_setT, assignTT, assignTL, assigns_nil, assigns_cons, Nat.reduceLT, if_true, if_false, isN_bb', notN_bb, notN_non, isN_non, isN_int, bi_lst_t, bi_lst_l, bi_tup_l, bi_tup_t, forK_nx, forK_cont, forK_brk, forK_ret, forK_err, forL_nil, fn__law_done_squared, Int.reduceLT, Int.reduceEq, runK_bs, nxt_bs]
theorem s_done5 : F__law_done [.int 5, x, y] st = F_between [x, y, third] st := by
  simp only [F__law_done, cs__law_done, runF_ap, runK_ret, runK_nx, runK_err, evSs_cs, evSs_nil, nxtS_nx, nxtS_ret, nxtS_err, nxtS_brk, nxtS_cont, bs_ok, bs_err, oo_some, selS_t, selS_f, evS_pass, evS_expr, evS_set, evS_par, evS_ret, evS_retN, evS_brk, evS_cont, evS_ite, evS_jput, evS_raise, evS_try, tryK, ev_var, ev_cst, ev_bin, ev_neg, ev_not, ev_cmp, ev_chain, ev_and, ev_or, ev_ite, ev_tup, ev_lst, ev_idx, ev_slc, ev_call, ev_bi, ev_isi, evs_nil, evs_cons, evo_none, evo_some, andK_bt, andK_bf, orK_bt, orK_bf, iteK_bt, iteK_bf, rb_ok, rb_err, mb_ap, mp_ap, lift_ap, gv_z, gv_s, List.map_cons, List.map_nil, List.length_cons, List.length_nil, List.length_set, List.replicate, List.cons_append, List.nil_append, Nat.reduceAdd, Nat.reduceSub, List.set_cons_zero, List.set_cons_succ, List.getElem?_cons_succ, List.getElem?_cons_zero, Option.map_some, Option.bind_some, assignN, setAll2, setAll3, setAll_nil, bin_add, bin_sub, bin_mul, bin_fdiv, bin_mod, bin_pow, cmp_lt, cmp_le, cmp_gt, cmp_ge, cmp_eqi, cmp_nei, negD_int, tru_bl, bi_int, bi_bl, bi_abs, bi_gcd, bi_lenl, bi_lent, isInt_int, jix, idxT0, idxT1, idxL0, idxL1, decide_true, decide_false, Bool.not_true, Bool.not_false, handle, ev_comp', noErr_ap, noErrR_ok, compL_nil, compL_cons, consO_s, consO_n, compT_ap, selT_t, selT_f, evt_nil, evt_cons, selE_t, selE_f, wipeE_nil, wipeE_cons, it_t, it_l, it_e, it_z, it_r, evS_loop, evH, evS_setT, assignTT, assignTL, assigns_nil, assigns_cons, Nat.reduceLT, if_true, if_false, isN_bb', notN_bb, notN_non, isN_non, isN_int, bi_lst_t, bi_lst_l, bi_tup_l, bi_tup_t, forK_nx, forK_cont, forK_brk, forK_ret, forK_err, forL_nil, fn__law_done_between, Int.reduceLT, Int.reduceEq, runK_bs, nxt_bs, third]
theorem lk1 {f : Str} {d : D} : List.lookup f [(f, d)] = some d := by simp [List.lookup]
theorem s_part_err {w : Int} {d : D} (e : F__law_done [.int w, x, y] st = .err (badP d) st) : F__law_part [.int w, x, y] st = .ok d st := by
  simp only [F__law_part, cs__law_part, runF_ap, runK_ret, runK_nx, runK_err, evSs_cs, evSs_nil, nxtS_nx, nxtS_ret, nxtS_err, nxtS_brk, nxtS_cont, bs_ok, bs_err, oo_some, selS_t, selS_f, evS_pass, evS_expr, evS_set, evS_par, evS_ret, evS_retN, evS_brk, evS_cont, evS_ite, evS_jput, evS_raise, evS_try, tryK, ev_var, ev_cst, ev_bin, ev_neg, ev_not, ev_cmp, ev_chain, ev_and, ev_or, ev_ite, ev_tup, ev_lst, ev_idx, ev_slc, ev_call, ev_bi, ev_isi, evs_nil, evs_cons, evo_none, evo_some, andK_bt, andK_bf, orK_bt, orK_bf, iteK_bt, iteK_bf, rb_ok, rb_err, mb_ap, mp_ap, lift_ap, gv_z, gv_s, List.map_cons, List.map_nil, List.length_cons, List.length_nil, List.length_set, List.replicate, List.cons_append, List.nil_append, Nat.reduceAdd, Nat.reduceSub, List.set_cons_zero, List.set_cons_succ, List.getElem?_cons_succ, List.getElem?_cons_zero, Option.map_some, Option.bind_some, assignN, setAll2, setAll3, setAll_nil, bin_add, bin_sub, bin_mul, bin_fdiv, bin_mod, bin_pow, cmp_lt, cmp_le, cmp_gt, cmp_ge, cmp_eqi, cmp_nei, negD_int, tru_bl, bi_int, bi_bl, bi_abs, bi_gcd, bi_lenl, bi_lent, isInt_int, jix, idxT0, idxT1, idxL0, idxL1, decide_true, decide_false, Bool.not_true, Bool.not_false, handle, ev_comp', noErr_ap, noErrR_ok, compL_nil, compL_cons, consO_s, consO_n, compT_ap, selT_t, selT_f, evt_nil, evt_cons, selE_t, selE_f, wipeE_nil, wipeE_cons, it_t, it_l, it_e, it_z, it_r, evS_loop, evH, evS_setT, assignTT, assignTL, assigns_nil, assigns_cons, Nat.reduceLT, if_true, if_false, isN_bb', notN_bb, notN_non, isN_non, isN_int, bi_lst_t, bi_lst_l, bi_tup_l, bi_tup_t, forK_nx, forK_cont, forK_brk, forK_ret, forK_err, forL_nil, fn__law_part__law_done, e, badP, gs__law_part_BadPoint_BadPoint, lk1]
theorem s_part_ok {w : Int} {d : D} (e : F__law_done [.int w, x, y] st = .ok d st) : F__law_part [.int w, x, y] st = .ok .non st := by
  simp only [F__law_part, cs__law_part, runF_ap, runK_ret, runK_nx, runK_err, evSs_cs, evSs_nil, nxtS_nx, nxtS_ret, nxtS_err, nxtS_brk, nxtS_cont, bs_ok, bs_err, oo_some, selS_t, selS_f, evS_pass, evS_expr, evS_set, evS_par, evS_ret, evS_retN, evS_brk, evS_cont, evS_ite, evS_jput, evS_raise, evS_try, tryK, ev_var, ev_cst, ev_bin, ev_neg, ev_not, ev_cmp, ev_chain, ev_and, ev_or, ev_ite, ev_tup, ev_lst, ev_idx, ev_slc, ev_call, ev_bi, ev_isi, evs_nil, evs_cons, evo_none, evo_some, andK_bt, andK_bf, orK_bt, orK_bf, iteK_bt, iteK_bf, rb_ok, rb_err, mb_ap, mp_ap, lift_ap, gv_z, gv_s, List.map_cons, List.map_nil, List.length_cons, List.length_nil, List.length_set, List.replicate, List.cons_append, List.nil_append, Nat.reduceAdd, Nat.reduceSub, List.set_cons_zero, List.set_cons_succ, List.getElem?_cons_succ, List.getElem?_cons_zero, Option.map_some, Option.bind_some, assignN, setAll2, setAll3, setAll_nil, bin_add, bin_sub, bin_mul, bin_fdiv, bin_mod, bin_pow, cmp_lt, cmp_le, cmp_gt, cmp_ge, cmp_eqi, cmp_nei, negD_int, tru_bl, bi_int, bi_bl, bi_abs, bi_gcd, bi_lenl, bi_lent, isInt_int, jix, idxT0, idxT1, idxL0, idxL1, decide_true, decide_false, Bool.not_true, Bool.not_false, handle, ev_comp', noErr_ap, noErrR_ok, compL_nil, compL_cons, consO_s, consO_n, compT_ap, selT_t, selT_f, evt_nil, evt_cons, selE_t, selE_f, wipeE_nil, wipeE_cons, it_t, it_l, it_e, it_z, it_r, evS_loop, evH, evS_setT, assignTT, assignTL, assigns_nil, assigns_cons, Nat.reduceLT, if_true, if_false, isN_bb', notN_bb, notN_non, isN_non, isN_int, bi_lst_t, bi_lst_l, bi_tup_l, bi_tup_t, forK_nx, forK_cont, forK_brk, forK_ret, forK_err, forL_nil, fn__law_part__law_done, e]
theorem done_no1 [NoP x] : ∀ w : Int, 0 ≤ w → w < 6 → F__law_done [.int w, x, y] st = .err (badP (.str "one")) st := by
  intro w h0 h1
  have : w = 0 ∨ w = 1 ∨ w = 2 ∨ w = 3 ∨ w = 4 ∨ w = 5 := by omega
  rcases this with rfl | rfl | rfl | rfl | rfl | rfl
  · rw [s_done0, n_added1]
  · rw [s_done1, n_taken1]
  · rw [s_done2, n_cross1]
  · rw [s_done3, n_dot1]
  · rw [s_done4, n_squared1]
  · rw [s_done5, n_between1]
theorem done_no2 {a b : Int × Int} [PtR x a b] [NoP y] : ∀ w : Int, 0 ≤ w → w < 6 → F__law_done [.int w, x, y] st = .err (badP (.str "other")) st := by
  intro w h0 h1
  have : w = 0 ∨ w = 1 ∨ w = 2 ∨ w = 3 ∨ w = 4 ∨ w = 5 := by omega
  rcases this with rfl | rfl | rfl | rfl | rfl | rfl
  · rw [s_done0, n_added2]
  · rw [s_done1, n_taken2]
  · rw [s_done2, n_cross2]
  · rw [s_done3, n_dot2]
  · rw [s_done4, n_squared2]
  · rw [s_done5, n_between2]
theorem done_ok {a b : Int × Int} [PtR x a b] [FD a] [FD b] : ∀ w : Int, 0 ≤ w → w < 6 → ∃ d, F__law_done [.int w, x, x] st = .ok d st := by
  intro w h0 h1
  have : w = 0 ∨ w = 1 ∨ w = 2 ∨ w = 3 ∨ w = 4 ∨ w = 5 := by omega
  rcases this with rfl | rfl | rfl | rfl | rfl | rfl
  · rw [s_done0]; exact ⟨_, s_added rfl rfl⟩
  · rw [s_done1]; exact ⟨_, s_taken rfl rfl⟩
  · rw [s_done2]; exact ⟨_, s_cross rfl rfl rfl⟩
  · rw [s_done3]; exact ⟨_, s_dot rfl rfl rfl⟩
  · rw [s_done4]; exact ⟨_, s_squared rfl rfl rfl rfl rfl⟩
  · rw [s_done5]; exact ⟨_, s_between rfl rfl rfl rfl rfl rfl⟩
def pP (s : Str) : D := .tup [.str "point", .str s]
def pN (s : Str) : D := .tup [.str "number", .str s]
theorem o_0 [NoP x] : F__law_other_part [.int 0, x, y] st = .ok (pP "vector") st := by
  simp (decide := true) only [F__law_other_part, cs__law_other_part, runF_ap, runK_ret, runK_nx, runK_err, evSs_cs, evSs_nil, nxtS_nx, nxtS_ret, nxtS_err, nxtS_brk, nxtS_cont, bs_ok, bs_err, oo_some, selS_t, selS_f, evS_pass, evS_expr, evS_set, evS_par, evS_ret, evS_retN, evS_brk, evS_cont, evS_ite, evS_jput, evS_raise, evS_try, tryK, ev_var, ev_cst, ev_bin, ev_neg, ev_not, ev_cmp, ev_chain, ev_and, ev_or, ev_ite, ev_tup, ev_lst, ev_idx, ev_slc, ev_call, ev_bi, ev_isi, evs_nil, evs_cons, evo_none, evo_some, andK_bt, andK_bf, orK_bt, orK_bf, iteK_bt, iteK_bf, rb_ok, rb_err, mb_ap, mp_ap, lift_ap, gv_z, gv_s, List.map_cons, List.map_nil, List.length_cons, List.length_nil, List.length_set, List.replicate, List.cons_append, List.nil_append, Nat.reduceAdd, Nat.reduceSub, List.set_cons_zero, List.set_cons_succ, List.getElem?_cons_succ, List.getElem?_cons_zero, Option.map_some, Option.bind_some, assignN, setAll2, setAll3, setAll_nil, bin_add, bin_sub, bin_mul, bin_fdiv, bin_mod, bin_pow, cmp_lt, cmp_le, cmp_gt, cmp_ge, cmp_eqi, cmp_nei, negD_int, tru_bl, bi_int, bi_bl, bi_abs, bi_gcd, bi_lenl, bi_lent, isInt_int, jix, idxT0, idxT1, idxL0, idxL1, decide_true, decide_false, Bool.not_true, Bool.not_false, handle, ev_comp', noErr_ap, noErrR_ok, compL_nil, compL_cons, consO_s, consO_n, compT_ap, selT_t, selT_f, evt_nil, evt_cons, selE_t, selE_f, wipeE_nil, wipeE_cons, it_t, it_l, it_e, it_z, it_r, evS_loop, evH, evS_setT, assignTT, assignTL, assigns_nil, assigns_cons, Nat.reduceLT, if_true, if_false, isN_bb', notN_bb, notN_non, isN_non, isN_int, bi_lst_t, bi_lst_l, bi_tup_l, bi_tup_t, forK_nx, forK_cont, forK_brk, forK_ret, forK_err, forL_nil, fn__law_other_part_quarter, n_quarter, badP, gs__law_other_part_BadPoint_BadPoint, lk1, evHs, pP, Int.reduceEq]
theorem o_1 [NoP x] : F__law_other_part [.int 1, x, y] st = .ok (pP "vector") st := by
  simp (decide := true) only [F__law_other_part, cs__law_other_part, runF_ap, runK_ret, runK_nx, runK_err, evSs_cs, evSs_nil, nxtS_nx, nxtS_ret, nxtS_err, nxtS_brk, nxtS_cont, bs_ok, bs_err, oo_some, selS_t, selS_f, evS_pass, evS_expr, evS_set, evS_par, evS_ret, evS_retN, evS_brk, evS_cont, evS_ite, evS_jput, evS_raise, evS_try, tryK, ev_var, ev_cst, ev_bin, ev_neg, ev_not, ev_cmp, ev_chain, ev_and, ev_or, ev_ite, ev_tup, ev_lst, ev_idx, ev_slc, ev_call, ev_bi, ev_isi, evs_nil, evs_cons, evo_none, evo_some, andK_bt, andK_bf, orK_bt, orK_bf, iteK_bt, iteK_bf, rb_ok, rb_err, mb_ap, mp_ap, lift_ap, gv_z, gv_s, List.map_cons, List.map_nil, List.length_cons, List.length_nil, List.length_set, List.replicate, List.cons_append, List.nil_append, Nat.reduceAdd, Nat.reduceSub, List.set_cons_zero, List.set_cons_succ, List.getElem?_cons_succ, List.getElem?_cons_zero, Option.map_some, Option.bind_some, assignN, setAll2, setAll3, setAll_nil, bin_add, bin_sub, bin_mul, bin_fdiv, bin_mod, bin_pow, cmp_lt, cmp_le, cmp_gt, cmp_ge, cmp_eqi, cmp_nei, negD_int, tru_bl, bi_int, bi_bl, bi_abs, bi_gcd, bi_lenl, bi_lent, isInt_int, jix, idxT0, idxT1, idxL0, idxL1, decide_true, decide_false, Bool.not_true, Bool.not_false, handle, ev_comp', noErr_ap, noErrR_ok, compL_nil, compL_cons, consO_s, consO_n, compT_ap, selT_t, selT_f, evt_nil, evt_cons, selE_t, selE_f, wipeE_nil, wipeE_cons, it_t, it_l, it_e, it_z, it_r, evS_loop, evH, evS_setT, assignTT, assignTL, assigns_nil, assigns_cons, Nat.reduceLT, if_true, if_false, isN_bb', notN_bb, notN_non, isN_non, isN_int, bi_lst_t, bi_lst_l, bi_tup_l, bi_tup_t, forK_nx, forK_cont, forK_brk, forK_ret, forK_err, forL_nil, fn__law_other_part_scaled, n_scaled1, badP, gs__law_other_part_BadPoint_BadPoint, lk1, evHs, pP, Int.reduceEq]
theorem o_1n {a b : Int × Int} [PtR x a b] [NoN y] : F__law_other_part [.int 1, x, y] st = .ok (pN "factor") st := by
  simp (decide := true) only [F__law_other_part, cs__law_other_part, runF_ap, runK_ret, runK_nx, runK_err, evSs_cs, evSs_nil, nxtS_nx, nxtS_ret, nxtS_err, nxtS_brk, nxtS_cont, bs_ok, bs_err, oo_some, selS_t, selS_f, evS_pass, evS_expr, evS_set, evS_par, evS_ret, evS_retN, evS_brk, evS_cont, evS_ite, evS_jput, evS_raise, evS_try, tryK, ev_var, ev_cst, ev_bin, ev_neg, ev_not, ev_cmp, ev_chain, ev_and, ev_or, ev_ite, ev_tup, ev_lst, ev_idx, ev_slc, ev_call, ev_bi, ev_isi, evs_nil, evs_cons, evo_none, evo_some, andK_bt, andK_bf, orK_bt, orK_bf, iteK_bt, iteK_bf, rb_ok, rb_err, mb_ap, mp_ap, lift_ap, gv_z, gv_s, List.map_cons, List.map_nil, List.length_cons, List.length_nil, List.length_set, List.replicate, List.cons_append, List.nil_append, Nat.reduceAdd, Nat.reduceSub, List.set_cons_zero, List.set_cons_succ, List.getElem?_cons_succ, List.getElem?_cons_zero, Option.map_some, Option.bind_some, assignN, setAll2, setAll3, setAll_nil, bin_add, bin_sub, bin_mul, bin_fdiv, bin_mod, bin_pow, cmp_lt, cmp_le, cmp_gt, cmp_ge, cmp_eqi, cmp_nei, negD_int, tru_bl, bi_int, bi_bl, bi_abs, bi_gcd, bi_lenl, bi_lent, isInt_int, jix, idxT0, idxT1, idxL0, idxL1, decide_true, decide_false, Bool.not_true, Bool.not_false, handle, ev_comp', noErr_ap, noErrR_ok, compL_nil, compL_cons, consO_s, consO_n, compT_ap, selT_t, selT_f, evt_nil, evt_cons, selE_t, selE_f, wipeE_nil, wipeE_cons, it_t, it_l, it_e, it_z, it_r, evS_loop, evH, evS_setT, assignTT, assignTL, assigns_nil, assigns_cons, Nat.reduceLT, if_true, if_false, isN_bb', notN_bb, notN_non, isN_non, isN_int, bi_lst_t, bi_lst_l, bi_tup_l, bi_tup_t, forK_nx, forK_cont, forK_brk, forK_ret, forK_err, forL_nil, fn__law_other_part_scaled, n_scaled2, badN, gs__law_other_part_BadNumber_BadPoint, gs__law_other_part_BadNumber_BadNumber, lk1, evHs, pN, Int.reduceEq]
theorem o_2x [NoN x] : F__law_other_part [.int 2, x, y] st = .ok (pN "x") st := by
  simp (decide := true) only [F__law_other_part, cs__law_other_part, runF_ap, runK_ret, runK_nx, runK_err, evSs_cs, evSs_nil, nxtS_nx, nxtS_ret, nxtS_err, nxtS_brk, nxtS_cont, bs_ok, bs_err, oo_some, selS_t, selS_f, evS_pass, evS_expr, evS_set, evS_par, evS_ret, evS_retN, evS_brk, evS_cont, evS_ite, evS_jput, evS_raise, evS_try, tryK, ev_var, ev_cst, ev_bin, ev_neg, ev_not, ev_cmp, ev_chain, ev_and, ev_or, ev_ite, ev_tup, ev_lst, ev_idx, ev_slc, ev_call, ev_bi, ev_isi, evs_nil, evs_cons, evo_none, evo_some, andK_bt, andK_bf, orK_bt, orK_bf, iteK_bt, iteK_bf, rb_ok, rb_err, mb_ap, mp_ap, lift_ap, gv_z, gv_s, List.map_cons, List.map_nil, List.length_cons, List.length_nil, List.length_set, List.replicate, List.cons_append, List.nil_append, Nat.reduceAdd, Nat.reduceSub, List.set_cons_zero, List.set_cons_succ, List.getElem?_cons_succ, List.getElem?_cons_zero, Option.map_some, Option.bind_some, assignN, setAll2, setAll3, setAll_nil, bin_add, bin_sub, bin_mul, bin_fdiv, bin_mod, bin_pow, cmp_lt, cmp_le, cmp_gt, cmp_ge, cmp_eqi, cmp_nei, negD_int, tru_bl, bi_int, bi_bl, bi_abs, bi_gcd, bi_lenl, bi_lent, isInt_int, jix, idxT0, idxT1, idxL0, idxL1, decide_true, decide_false, Bool.not_true, Bool.not_false, handle, ev_comp', noErr_ap, noErrR_ok, compL_nil, compL_cons, consO_s, consO_n, compT_ap, selT_t, selT_f, evt_nil, evt_cons, selE_t, selE_f, wipeE_nil, wipeE_cons, it_t, it_l, it_e, it_z, it_r, evS_loop, evH, evS_setT, assignTT, assignTL, assigns_nil, assigns_cons, Nat.reduceLT, if_true, if_false, isN_bb', notN_bb, notN_non, isN_non, isN_int, bi_lst_t, bi_lst_l, bi_tup_l, bi_tup_t, forK_nx, forK_cont, forK_brk, forK_ret, forK_err, forL_nil, fn__law_other_part_point, n_point1, badN, gs__law_other_part_BadNumber_BadPoint, gs__law_other_part_BadNumber_BadNumber, lk1, evHs, pN, Int.reduceEq]
theorem o_2y {a : Int × Int} [NmR x a] [NoN y] : F__law_other_part [.int 2, x, y] st = .ok (pN "y") st := by
  simp (decide := true) only [F__law_other_part, cs__law_other_part, runF_ap, runK_ret, runK_nx, runK_err, evSs_cs, evSs_nil, nxtS_nx, nxtS_ret, nxtS_err, nxtS_brk, nxtS_cont, bs_ok, bs_err, oo_some, selS_t, selS_f, evS_pass, evS_expr, evS_set, evS_par, evS_ret, evS_retN, evS_brk, evS_cont, evS_ite, evS_jput, evS_raise, evS_try, tryK, ev_var, ev_cst, ev_bin, ev_neg, ev_not, ev_cmp, ev_chain, ev_and, ev_or, ev_ite, ev_tup, ev_lst, ev_idx, ev_slc, ev_call, ev_bi, ev_isi, evs_nil, evs_cons, evo_none, evo_some, andK_bt, andK_bf, orK_bt, orK_bf, iteK_bt, iteK_bf, rb_ok, rb_err, mb_ap, mp_ap, lift_ap, gv_z, gv_s, List.map_cons, List.map_nil, List.length_cons, List.length_nil, List.length_set, List.replicate, List.cons_append, List.nil_append, Nat.reduceAdd, Nat.reduceSub, List.set_cons_zero, List.set_cons_succ, List.getElem?_cons_succ, List.getElem?_cons_zero, Option.map_some, Option.bind_some, assignN, setAll2, setAll3, setAll_nil, bin_add, bin_sub, bin_mul, bin_fdiv, bin_mod, bin_pow, cmp_lt, cmp_le, cmp_gt, cmp_ge, cmp_eqi, cmp_nei, negD_int, tru_bl, bi_int, bi_bl, bi_abs, bi_gcd, bi_lenl, bi_lent, isInt_int, jix, idxT0, idxT1, idxL0, idxL1, decide_true, decide_false, Bool.not_true, Bool.not_false, handle, ev_comp', noErr_ap, noErrR_ok, compL_nil, compL_cons, consO_s, consO_n, compT_ap, selT_t, selT_f, evt_nil, evt_cons, selE_t, selE_f, wipeE_nil, wipeE_cons, it_t, it_l, it_e, it_z, it_r, evS_loop, evH, evS_setT, assignTT, assignTL, assigns_nil, assigns_cons, Nat.reduceLT, if_true, if_false, isN_bb', notN_bb, notN_non, isN_non, isN_int, bi_lst_t, bi_lst_l, bi_tup_l, bi_tup_t, forK_nx, forK_cont, forK_brk, forK_ret, forK_err, forL_nil, fn__law_other_part_point, n_point2, badN, gs__law_other_part_BadNumber_BadPoint, gs__law_other_part_BadNumber_BadNumber, lk1, evHs, pN, Int.reduceEq]
theorem o_3 [NoP x] : F__law_other_part [.int 3, x, y] st = .ok (pP "other") st := by
  simp (decide := true) only [F__law_other_part, cs__law_other_part, runF_ap, runK_ret, runK_nx, runK_err, evSs_cs, evSs_nil, nxtS_nx, nxtS_ret, nxtS_err, nxtS_brk, nxtS_cont, bs_ok, bs_err, oo_some, selS_t, selS_f, evS_pass, evS_expr, evS_set, evS_par, evS_ret, evS_retN, evS_brk, evS_cont, evS_ite, evS_jput, evS_raise, evS_try, tryK, ev_var, ev_cst, ev_bin, ev_neg, ev_not, ev_cmp, ev_chain, ev_and, ev_or, ev_ite, ev_tup, ev_lst, ev_idx, ev_slc, ev_call, ev_bi, ev_isi, evs_nil, evs_cons, evo_none, evo_some, andK_bt, andK_bf, orK_bt, orK_bf, iteK_bt, iteK_bf, rb_ok, rb_err, mb_ap, mp_ap, lift_ap, gv_z, gv_s, List.map_cons, List.map_nil, List.length_cons, List.length_nil, List.length_set, List.replicate, List.cons_append, List.nil_append, Nat.reduceAdd, Nat.reduceSub, List.set_cons_zero, List.set_cons_succ, List.getElem?_cons_succ, List.getElem?_cons_zero, Option.map_some, Option.bind_some, assignN, setAll2, setAll3, setAll_nil, bin_add, bin_sub, bin_mul, bin_fdiv, bin_mod, bin_pow, cmp_lt, cmp_le, cmp_gt, cmp_ge, cmp_eqi, cmp_nei, negD_int, tru_bl, bi_int, bi_bl, bi_abs, bi_gcd, bi_lenl, bi_lent, isInt_int, jix, idxT0, idxT1, idxL0, idxL1, decide_true, decide_false, Bool.not_true, Bool.not_false, handle, ev_comp', noErr_ap, noErrR_ok, compL_nil, compL_cons, consO_s, consO_n, compT_ap, selT_t, selT_f, evt_nil, evt_cons, selE_t, selE_f, wipeE_nil, wipeE_cons, it_t, it_l, it_e, it_z, it_r, evS_loop, evH, evS_setT, assignTT, assignTL, assigns_nil, assigns_cons, Nat.reduceLT, if_true, if_false, isN_bb', notN_bb, notN_non, isN_non, isN_int, bi_lst_t, bi_lst_l, bi_tup_l, bi_tup_t, forK_nx, forK_cont, forK_brk, forK_ret, forK_err, forL_nil, fn__law_other_part_between, n_between2, badP, gs__law_other_part_BadPoint_BadPoint, lk1, evHs, pP, Int.reduceEq]
theorem o_3n {a b : Int × Int} [PtR x a b] [NoN y] : F__law_other_part [.int 3, x, y] st = .ok (pN "share") st := by
  simp (decide := true) only [F__law_other_part, cs__law_other_part, runF_ap, runK_ret, runK_nx, runK_err, evSs_cs, evSs_nil, nxtS_nx, nxtS_ret, nxtS_err, nxtS_brk, nxtS_cont, bs_ok, bs_err, oo_some, selS_t, selS_f, evS_pass, evS_expr, evS_set, evS_par, evS_ret, evS_retN, evS_brk, evS_cont, evS_ite, evS_jput, evS_raise, evS_try, tryK, ev_var, ev_cst, ev_bin, ev_neg, ev_not, ev_cmp, ev_chain, ev_and, ev_or, ev_ite, ev_tup, ev_lst, ev_idx, ev_slc, ev_call, ev_bi, ev_isi, evs_nil, evs_cons, evo_none, evo_some, andK_bt, andK_bf, orK_bt, orK_bf, iteK_bt, iteK_bf, rb_ok, rb_err, mb_ap, mp_ap, lift_ap, gv_z, gv_s, List.map_cons, List.map_nil, List.length_cons, List.length_nil, List.length_set, List.replicate, List.cons_append, List.nil_append, Nat.reduceAdd, Nat.reduceSub, List.set_cons_zero, List.set_cons_succ, List.getElem?_cons_succ, List.getElem?_cons_zero, Option.map_some, Option.bind_some, assignN, setAll2, setAll3, setAll_nil, bin_add, bin_sub, bin_mul, bin_fdiv, bin_mod, bin_pow, cmp_lt, cmp_le, cmp_gt, cmp_ge, cmp_eqi, cmp_nei, negD_int, tru_bl, bi_int, bi_bl, bi_abs, bi_gcd, bi_lenl, bi_lent, isInt_int, jix, idxT0, idxT1, idxL0, idxL1, decide_true, decide_false, Bool.not_true, Bool.not_false, handle, ev_comp', noErr_ap, noErrR_ok, compL_nil, compL_cons, consO_s, consO_n, compT_ap, selT_t, selT_f, evt_nil, evt_cons, selE_t, selE_f, wipeE_nil, wipeE_cons, it_t, it_l, it_e, it_z, it_r, evS_loop, evH, evS_setT, assignTT, assignTL, assigns_nil, assigns_cons, Nat.reduceLT, if_true, if_false, isN_bb', notN_bb, notN_non, isN_non, isN_int, bi_lst_t, bi_lst_l, bi_tup_l, bi_tup_t, forK_nx, forK_cont, forK_brk, forK_ret, forK_err, forL_nil, fn__law_other_part_between, n_between3, badN, gs__law_other_part_BadNumber_BadPoint, gs__law_other_part_BadNumber_BadNumber, lk1, evHs, pN, Int.reduceEq]
theorem o_1g {a b c : Int × Int} [PtR x a b] [NmR y c] [FD a] [FD b] [FD c] : F__law_other_part [.int 1, x, y] st = .ok .non st := by
  simp (decide := true) only [F__law_other_part, cs__law_other_part, runF_ap, runK_ret, runK_nx, runK_err, evSs_cs, evSs_nil, nxtS_nx, nxtS_ret, nxtS_err, nxtS_brk, nxtS_cont, bs_ok, bs_err, oo_some, selS_t, selS_f, evS_pass, evS_expr, evS_set, evS_par, evS_ret, evS_retN, evS_brk, evS_cont, evS_ite, evS_jput, evS_raise, evS_try, tryK, ev_var, ev_cst, ev_bin, ev_neg, ev_not, ev_cmp, ev_chain, ev_and, ev_or, ev_ite, ev_tup, ev_lst, ev_idx, ev_slc, ev_call, ev_bi, ev_isi, evs_nil, evs_cons, evo_none, evo_some, andK_bt, andK_bf, orK_bt, orK_bf, iteK_bt, iteK_bf, rb_ok, rb_err, mb_ap, mp_ap, lift_ap, gv_z, gv_s, List.map_cons, List.map_nil, List.length_cons, List.length_nil, List.length_set, List.replicate, List.cons_append, List.nil_append, Nat.reduceAdd, Nat.reduceSub, List.set_cons_zero, List.set_cons_succ, List.getElem?_cons_succ, List.getElem?_cons_zero, Option.map_some, Option.bind_some, assignN, setAll2, setAll3, setAll_nil, bin_add, bin_sub, bin_mul, bin_fdiv, bin_mod, bin_pow, cmp_lt, cmp_le, cmp_gt, cmp_ge, cmp_eqi, cmp_nei, negD_int, tru_bl, bi_int, bi_bl, bi_abs, bi_gcd, bi_lenl, bi_lent, isInt_int, jix, idxT0, idxT1, idxL0, idxL1, decide_true, decide_false, Bool.not_true, Bool.not_false, handle, ev_comp', noErr_ap, noErrR_ok, compL_nil, compL_cons, consO_s, consO_n, compT_ap, selT_t, selT_f, evt_nil, evt_cons, selE_t, selE_f, wipeE_nil, wipeE_cons, it_t, it_l, it_e, it_z, it_r, evS_loop, evH, evS_setT, assignTT, assignTL, assigns_nil, assigns_cons, Nat.reduceLT, if_true, if_false, isN_bb', notN_bb, notN_non, isN_non, isN_int, bi_lst_t, bi_lst_l, bi_tup_l, bi_tup_t, forK_nx, forK_cont, forK_brk, forK_ret, forK_err, forL_nil, fn__law_other_part_scaled, s_scaled, Int.reduceEq]
end
end LK
namespace LK
open PySem DE
def bads : List D := [.non, .bl true, .int 7, .str "12", .tup [.int 1], .tup [.int 1, .int 2, .int 3], .tup [.tup [.int 2, .int 4], .int 1], .tup [.int 1, .bl true], .lst [.int 1, .non], .dic, .tup []]
theorem bads_no {d : D} (h : d ∈ bads) : NoP d := by
  simp only [bads, List.mem_cons, List.not_mem_nil, or_false] at h
  rcases h with rfl | rfl | rfl | rfl | rfl | rfl | rfl | rfl | rfl | rfl | rfl <;> exact ⟨rfl, rfl⟩
theorem eqT (d : D) (b : Bool) (h : (if isDT d (.tup []) then some false else eqD d (.tup [])) = some b) : cmpD .eq d (.tup []) = some b := by
  rw [← h]
  cases d <;> simp only [cmpD]
theorem bads_are {d : D} {st : S} (h : d ∈ bads) : ∃ b, F_are_points [d, .int 0, .int 0] st = .ok (.bl b) st ∧ cmpD .eq d (.tup []) = some b := by
  simp only [bads, List.mem_cons, List.not_mem_nil, or_false] at h
  rcases h with rfl | rfl | rfl | rfl | rfl | rfl | rfl | rfl | rfl | rfl | rfl
  · exact ⟨false, n_are_points rfl, eqT _ _ (by kernel_rfl)⟩
  · exact ⟨false, n_are_points rfl, eqT _ _ (by kernel_rfl)⟩
  · exact ⟨false, n_are_points rfl, eqT _ _ (by kernel_rfl)⟩
  · exact ⟨false, n_are_points rfl, eqT _ _ (by kernel_rfl)⟩
  · exact ⟨false, o_are_points _ (.inr rfl) (by simp [askP, kn, tyD]) (by simp), eqT _ _ (by kernel_rfl)⟩
  · exact ⟨false, o_are_points _ (.inr rfl) (by simp [askP, kn, tyD]) (by simp), eqT _ _ (by kernel_rfl)⟩
  · exact ⟨false, o_are_points _ (.inr rfl) (by simp [askP, kn, tyD, DE.ask]) (by simp), eqT _ _ (by kernel_rfl)⟩
  · exact ⟨false, o_are_points _ (.inr rfl) (by simp [askP, kn, tyD]) (by simp), eqT _ _ (by kernel_rfl)⟩
  · exact ⟨false, o_are_points _ (.inl rfl) (by simp [askP, kn, tyD]) (by simp), eqT _ _ (by kernel_rfl)⟩
  · exact ⟨false, n_are_points rfl, eqT _ _ rfl⟩
  · exact ⟨true, o_are_points _ (.inr rfl) (by simp) (by simp), eqT _ _ (by kernel_rfl)⟩
def odds : List D := [.non, .str "1", .tup [.int 2, .int 4], .bl true, .lst [.int 1], .tup [.int 1, .int 0]]
theorem odds_no {d : D} (h : d ∈ odds) : NoN d := by
  simp only [odds, List.mem_cons, List.not_mem_nil, or_false] at h
  rcases h with rfl | rfl | rfl | rfl | rfl | rfl <;> exact ⟨rfl, rfl⟩
/-- the turns of the sums -/
def turnB : List CS := [(.ite (.not (.call "_law_sums_right" [(.var 1)])) [(.ret (.cst (.bl false)))] [])]
def envA (s : D) (x2 : Sl) : DE.Env := [.val s, .val .jug, x2, .non, .non, .non, .non, .non, .non, .non, .non]
theorem turns {s : D} {its : List D} {n : Nat} {st : S} {x2 : Sl} (J : JS n st) (hn : n + 60 * its.length ≤ 900000) : ∃ x2' st', forL (loopB g_law (.nm 2) turnB) its (envA s x2) st = .nx (envA s x2') st' ∧ JS (n + 60 * its.length) st' := by
  obtain ⟨ρ, st', e, ⟨x, rfl⟩, J'⟩ := forL_inv (step := loopB g_law (.nm 2) turnB) (I := fun m ρ s' => (∃ x, ρ = envA s x) ∧ JS m s') (c := 60) (xs := its) (n := n) (ρ := envA s x2) (st := st) ⟨⟨x2, rfl⟩, J⟩ (by
    rintro d _ m _ s' h1 h2 ⟨⟨x, rfl⟩, J'⟩
    obtain ⟨_, s2, e2, rfl, J2⟩ := s_sums J'
    refine ⟨envA s (.val d), s2, ?_, ⟨_, rfl⟩, J2⟩
    simp only [loopB, turnB, envA, runF_ap, runK_ret, runK_nx, runK_err, evSs_cs, evSs_nil, nxtS_nx, nxtS_ret, nxtS_err, nxtS_brk, nxtS_cont, bs_ok, bs_err, oo_some, selS_t, selS_f, evS_pass, evS_expr, evS_set, evS_par, evS_ret, evS_retN, evS_brk, evS_cont, evS_ite, evS_jput, evS_raise, evS_try, tryK, ev_var, ev_cst, ev_bin, ev_neg, ev_not, ev_cmp, ev_chain, ev_and, ev_or, ev_ite, ev_tup, ev_lst, ev_idx, ev_slc, ev_call, ev_bi, ev_isi, evs_nil, evs_cons, evo_none, evo_some, andK_bt, andK_bf, orK_bt, orK_bf, iteK_bt, iteK_bf, rb_ok, rb_err, mb_ap, mp_ap, lift_ap, gv_z, gv_s, List.map_cons, List.map_nil, List.length_cons, List.length_nil, List.length_set, List.replicate, List.cons_append, List.nil_append, Nat.reduceAdd, Nat.reduceSub, List.set_cons_zero, List.set_cons_succ, List.getElem?_cons_succ, List.getElem?_cons_zero, Option.map_some, Option.bind_some, assignN, setAll2, setAll3, setAll_nil, bin_add, bin_sub, bin_mul, bin_fdiv, bin_mod, bin_pow, cmp_lt, cmp_le, cmp_gt, cmp_ge, cmp_eqi, cmp_nei, negD_int, tru_bl, bi_int, bi_bl, bi_abs, bi_gcd, bi_lenl, bi_lent, isInt_int, jix, idxT0, idxT1, idxL0, idxL1, decide_true, decide_false, Bool.not_true, Bool.not_false, handle, ev_comp', noErr_ap, noErrR_ok, compL_nil, compL_cons, consO_s, consO_n, compT_ap, selT_t, selT_f, evt_nil, evt_cons, selE_t, selE_f, wipeE_nil, wipeE_cons, it_t, it_l, it_e, it_z, it_r, evS_loop, evH, evS_setT, assignTT, assignTL, assigns_nil, assigns_cons, Nat.reduceLT, if_true, if_false, isN_bb', notN_bb, notN_non, isN_non, isN_int, bi_lst_t, bi_lst_l, bi_tup_l, bi_tup_t, forK_nx, forK_cont, forK_brk, forK_ret, forK_err, forL_nil, fn_law__law_sums_right, e2])
  exact ⟨x, st', e, J'⟩
/-- a row of points -/
def rowE : C := (.call "_law_passed" [(.var 1), (.call "_law_spot" [(.var 1)])])
def IsP (d : D) : Prop := askP d = true ∧ isPt d = true
theorem row_ok {its : List D} {n : Nat} {st : S} {ρ : DE.Env} (hρ : getVar ((ρ.set 2 .non).set 2 (.val .non)) 1 = some .jug) (J : JS n st) (hn : n + 30 * its.length ≤ 900000) (ha : ∀ x, assign (.nm 2) x (wipeE ρ [2]) = some ((ρ.set 2 .non).set 2 (.val x)) ∧ getVar ((ρ.set 2 .non).set 2 (.val x)) 1 = some .jug) :
    ∃ ds st', compL (fun x => noErr (compT (.nm 2) [2] ρ (evt g_law []) (ev g_law rowE) x)) its st = .ok ds st' ∧ ds.length = its.length ∧ (∀ d ∈ ds, IsP d) ∧ JS (n + 30 * its.length) st' := by
  refine compL_draw (I := JS) (P := IsP) (c := 30) J fun x hx m s h1 h2 J' => ?_
  obtain ⟨_, s1, e1, p, q, rfl, fp, fq, J1⟩ := s_spot J'
  obtain ⟨_, s2, e2, x0, y0, ho, hx0, hy0, J2⟩ := s_passed (p := p) (q := q) J1
  rename_i d2
  haveI : PtR d2 p q := ⟨x0, y0, ho, hx0, hy0⟩
  have is : PtR d2 p q := inferInstance
  obtain ⟨a1, a2⟩ := ha x
  refine ⟨d2, s2, ?_, ⟨is.is.2, is.is.1⟩, J2.mono (by omega)⟩
  simp only [noErr_ap, compT_ap, lift_ap, a1, rb_ok, mb_ap, evt_nil, selT_t, rowE, ev_call, evs_cons, evs_nil, ev_var, a2, mp_ap, fn_law__law_spot, fn_law__law_passed, e1, e2, noErrR_ok]
end LK
namespace LK
open PySem DE
theorem all_pts {xs : List D} (h : ∀ d ∈ xs, IsP d) : xs.all isPt = true := by
  rw [List.all_eq_true]
  exact fun d hd => (h d hd).2
theorem slc_sub {xs : List D} {lo hi : Option Int} {d : D} (h : d ∈ slcL xs lo hi) : d ∈ xs := List.mem_of_mem_drop (List.mem_of_mem_take h)
theorem slc_le {xs : List D} {lo hi : Option Int} : (slcL xs lo hi).length ≤ xs.length := by
  unfold slcL
  rw [List.length_take, List.length_drop]
  omega
theorem add_lst {xs ys : List D} (h : xs.length + ys.length ≤ 1000000) : binD .add (.lst xs) (.lst ys) = some (.lst (xs ++ ys)) := by
  simp only [binD, decide_eq_true h, if_true]
theorem due_ne : cmpD .ne (.lst [pP "vector", pP "vector", pN "factor", pN "x", pN "y", pP "other", pN "share", .non]) (.lst [pP "vector", pP "vector", pN "factor", pN "x", pN "y", pP "other", pN "share", .non]) = some false := by kernel_rfl
theorem plain : ∀ ns : List Int, ns.length ≤ 63 → ∃ xs st', F__law_vase [.klst (ns.map .int)] [] = .ok xs [] ∧ evSs g_law cs_law (([D.klst (ns.map .int)].map Sl.val ++ List.replicate (11 - 1) Sl.non).set 1 (.val .jug)) xs = .ret (.bl true) st' := by
  intro ns h
  obtain ⟨st, eu, J0⟩ := urn_gen (Γ := g__law_vase) 60 h
  obtain ⟨_, st1, e1, r, rfl, r0, r1, J1⟩ := s_fill (many := 4) J0
  have i1 := it_n (n := 2 + r) (by omega) (by omega)
  obtain ⟨x2, st2, e2, J2⟩ := turns (s := .klst (ns.map .int)) (its := ((List.range (2 + r).toNat).map fun k : Nat => ((k : Nat) : Int)).map .int) (x2 := .non) J1 (by simp; omega)
  obtain ⟨_, st3, e3, p, q, rfl, fp, fq, J3⟩ := s_spot (J2.mono (m := 400) (by simp; omega))
  obtain ⟨good, st4, e4, x0, y0, ho, hx0, hy0, J4⟩ := s_passed (p := p) (q := q) J3
  obtain ⟨_, st5, e5, num, rfl, fn, J5⟩ := s_drawn J4
  obtain ⟨bad, st6, e6, hb, J6⟩ := s_one_of (xs := bads) J5 (by omega) (by decide) (by decide)
  obtain ⟨odd, st7, e7, hod, J7⟩ := s_one_of (xs := odds) J6 (by omega) (by decide) (by decide)
  haveI : PtR good p q := ⟨x0, y0, ho, hx0, hy0⟩
  haveI := bads_no hb
  haveI := odds_no hod
  obtain ⟨_, st8, e8, r8, rfl, a8, b8, J8⟩ := s_fill (many := 5) J7
  have i8 := it_n (n := r8) (by omega) (by omega)
  have l8 : (((List.range r8.toNat).map fun k : Nat => ((k : Nat) : Int)).map D.int).length = r8.toNat := by simp
  generalize hits : ((List.range r8.toNat).map fun k : Nat => ((k : Nat) : Int)).map D.int = its8 at i8 l8
  have f8 : few its8 = some its8 := few_ok (Nat.ble_eq_true_of_le (by omega))
  obtain ⟨row, st9, e9, l9, p9, J9⟩ := row_ok (its := its8) (ρ := [.val (.klst (ns.map .int)), .val .jug, x2, .val bad, .val (.int 5), .val odd, .val (.lst [pP "vector", pP "vector", pN "factor", pN "x", pN "y", pP "other", pN "share", .non]), .val good, .val (dP num), .non, .non]) rfl J8 (by omega) (fun x => ⟨rfl, rfl⟩)
  obtain ⟨_, st10, e10, at_, rfl, a10, b10, J10⟩ := s_fill (many := 6) (J9.mono (m := 2000) (by omega))
  refine ⟨st, st10, eu, ?_⟩
  have i6 : itemsD .rng [.int 6] = some [.int 0, .int 1, .int 2, .int 3, .int 4, .int 5] := rfl
  have d1 : ∀ (w : Int) st, 0 ≤ w → w < 6 → F__law_part [.int w, bad, bad] st = .ok (.str "one") st := fun w st h0 h1 => s_part_err (done_no1 w h0 h1)
  have d2 : ∀ (w : Int) st, 0 ≤ w → w < 6 → F__law_part [.int w, good, bad] st = .ok (.str "other") st := fun w st h0 h1 => s_part_err (done_no2 w h0 h1)
  have d3 : ∀ (w : Int) st, 0 ≤ w → w < 6 → F__law_part [.int w, good, good] st = .ok .non st := fun w st h0 h1 => by
    obtain ⟨d, e⟩ := done_ok (x := good) (st := st) w h0 h1
    exact s_part_ok e
  have n1 : cmpD .ne (.str "one") (.str "one") = some false := by kernel_rfl
  have n2 : cmpD .ne (.str "other") (.str "other") = some false := by kernel_rfl
  -- rows of points
  have lr : row.length ≤ 4 := by omega
  have ap := fun d hd => (p9 d hd).1
  have k1 := o_are_points (st := st10) (lo := 0) (hi := 4) (.lst row) (.inl rfl) ap (by omega)
  rw [all_pts p9, show arePts row.length 0 4 = true by unfold arePts; simp; omega] at k1
  have k2 := o_are_points (st := st10) (lo := ((row.length : Nat) : Int) + 1) (hi := 9) (.tup row) (.inr rfl) ap (by omega)
  rw [show arePts row.length (((row.length : Nat) : Int) + 1) 9 = false by unfold arePts; simp; omega] at k2
  have k3 := o_are_points (st := st10) (lo := 0) (hi := ((row.length : Nat) : Int) - 1) (.lst row) (.inl rfl) ap (by omega)
  rw [show arePts row.length 0 (((row.length : Nat) : Int) - 1) = false by unfold arePts; simp; omega] at k3
  have s1 : slcD (.lst row) none (some at_) = some (.lst (slcL row none (some at_))) := rfl
  have s2 : slcD (.lst row) (some at_) none = some (.lst (slcL row (some at_) none)) := rfl
  have z1 := @slc_le row none (some at_)
  have z2 := @slc_le row (some at_) none
  have c1 := add_lst (xs := slcL row none (some at_)) (ys := [bad]) (by simp; omega)
  have c2 := add_lst (xs := slcL row none (some at_) ++ [bad]) (ys := slcL row (some at_) none) (by simp; omega)
  have k4 := o_are_points (st := st10) (lo := 0) (hi := 9) (xs := slcL row none (some at_) ++ [bad] ++ slcL row (some at_) none) (.lst _) (.inl rfl) (by
    intro d hd
    rw [List.mem_append, List.mem_append, List.mem_singleton] at hd
    rcases hd with (hd | rfl) | hd
    · exact ap d (slc_sub hd)
    · exact (bads_no hb).k
    · exact ap d (slc_sub hd)) (by simp; omega)
  rw [show (slcL row none (some at_) ++ [bad] ++ slcL row (some at_) none).all isPt = false by simp [(bads_no hb).h], Bool.and_false] at k4
  obtain ⟨bb, k5, k6⟩ := bads_are (st := st10) hb
  have k7 := n_are_points (st := st10) (d := .str "") (x := .int 0) (y := .int 3) rfl
  unfold turnB envA at e2
  unfold rowE at e9
  unfold bads at e6
  unfold odds at e7
  have dn := due_ne
  have cl := add_lst (xs := [pP "vector", pP "vector", pN "factor", pN "x"]) (ys := [pN "y", pP "other", pN "share", .non]) (by simp)
  simp only [pP, pN, List.cons_append, List.nil_append] at cl dn e9
  simp (decide := true) only [cs_law, runF_ap, runK_ret, runK_nx, runK_err, evSs_cs, evSs_nil, nxtS_nx, nxtS_ret, nxtS_err, nxtS_brk, nxtS_cont, bs_ok, bs_err, oo_some, selS_t, selS_f, evS_pass, evS_expr, evS_set, evS_par, evS_ret, evS_retN, evS_brk, evS_cont, evS_ite, evS_jput, evS_raise, evS_try, tryK, ev_var, ev_cst, ev_bin, ev_neg, ev_not, ev_cmp, ev_chain, ev_and, ev_or, ev_ite, ev_tup, ev_lst, ev_idx, ev_slc, ev_call, ev_bi, ev_isi, evs_nil, evs_cons, evo_none, evo_some, andK_bt, andK_bf, orK_bt, orK_bf, iteK_bt, iteK_bf, rb_ok, rb_err, mb_ap, mp_ap, lift_ap, gv_z, gv_s, List.map_cons, List.map_nil, List.length_cons, List.length_nil, List.length_set, List.replicate, List.cons_append, List.nil_append, Nat.reduceAdd, Nat.reduceSub, List.set_cons_zero, List.set_cons_succ, List.getElem?_cons_succ, List.getElem?_cons_zero, Option.map_some, Option.bind_some, assignN, setAll2, setAll3, setAll_nil, bin_add, bin_sub, bin_mul, bin_fdiv, bin_mod, bin_pow, cmp_lt, cmp_le, cmp_gt, cmp_ge, cmp_eqi, cmp_nei, negD_int, tru_bl, bi_int, bi_bl, bi_abs, bi_gcd, bi_lenl, bi_lent, isInt_int, jix, idxT0, idxT1, idxL0, idxL1, decide_true, decide_false, Bool.not_true, Bool.not_false, handle, ev_comp', noErr_ap, noErrR_ok, compL_nil, compL_cons, consO_s, consO_n, compT_ap, selT_t, selT_f, evt_nil, evt_cons, selE_t, selE_f, wipeE_nil, wipeE_cons, it_t, it_l, it_e, it_z, it_r, evS_loop, evH, evS_setT, assignTT, assignTL, assigns_nil, assigns_cons, Nat.reduceLT, if_true, if_false, isN_bb', notN_bb, notN_non, isN_non, isN_int, bi_lst_t, bi_lst_l, bi_tup_l, bi_tup_t, forK_nx, forK_cont, forK_brk, forK_ret, forK_err, forL_nil, fn_law__law_fill, fn_law__law_passed, fn_law__law_spot, fn_law__law_drawn, fn_law__law_one_of, fn_law_is_point, fn_law__law_part, fn_law__law_other_part, fn_law_are_points, e1, i1, e2, e3, e4, e5, e6, n_is_point, i6, Int.reduceLE, Int.reduceLT, forL_cons, loopB, d1, d2, d3, n1, n2, e7, o_0, o_1, o_1n, o_2x, o_2y, o_3, o_3n, o_1g, cl, dn, pP, pN, e8, i8, f8, e9, e10, k1, k2, k3, s1, s2, c1, c2, k4, k5, k6, k7, Bool.and_true, Bool.true_and, Bool.false_and, cmp_eqb]
end LK
namespace LK
open PySem PySem.W PyProof.Rows PySem.Spec L2 DE He
def ct_lawL : Ct := { N := ["script", "vase", "turn", "bad", "way", "odd", "some", "good", "number", "row", "at"], sc := defScope (top 53), fnl := none, T := { fns := [("_law_one_of", 2), ("_law_passed", 2), ("_law_drawn", 1), ("is_point", 1), ("_law_other_part", 3), ("_law_fill", 2), ("_law_sums_right", 1), ("_law_spot", 1), ("are_points", 3), ("_law_part", 3)], modes := [("are_points", 0, ["value", "least", "most"], [])], csts := [], bis := ["range", "tuple", "len"], gcd := false, exs := [], flds := [], cls := [] } }
/-! ### the text is that -/
theorem cc_is_integer : cSs ct_is_integer [] 60 (defBody (top 2)) = some cs_is_integer := by kernel_rfl
theorem sc_is_integer : FnScope ["value"] ["value"] (defScope (top 2)) := ⟨rfl, rfl, rfl, by decide +kernel, rfl, by decide +kernel, by decide +kernel⟩
theorem cc_is_within : cSs ct_is_within [] 60 (defBody (top 3)) = some cs_is_within := by kernel_rfl
theorem sc_is_within : FnScope ["value", "least", "most"] ["value", "least", "most"] (defScope (top 3)) := ⟨rfl, rfl, rfl, by decide +kernel, rfl, by decide +kernel, by decide +kernel⟩
theorem cc_is_number : cSs ct_is_number [] 60 (defBody (top 4)) = some cs_is_number := by kernel_rfl
theorem sc_is_number : FnScope ["value"] ["value"] (defScope (top 4)) := ⟨rfl, rfl, rfl, by decide +kernel, rfl, by decide +kernel, by decide +kernel⟩
theorem cc_is_point : cSs ct_is_point [] 60 (defBody (top 5)) = some cs_is_point := by kernel_rfl
theorem sc_is_point : FnScope ["value"] ["value"] (defScope (top 5)) := ⟨rfl, rfl, rfl, by decide +kernel, rfl, by decide +kernel, by decide +kernel⟩
theorem cc_are_points : cSs ct_are_points [] 60 (defBody (top 6)) = some cs_are_points := by kernel_rfl
theorem sc_are_points : FnScope ["value", "least", "most", "one"] ["value", "least", "most"] (defScope (top 6)) := ⟨rfl, rfl, rfl, by decide +kernel, rfl, by decide +kernel, by decide +kernel⟩
theorem cc_lowest : cSs ct_lowest [] 60 (defBody (top 12)) = some cs_lowest := by kernel_rfl
theorem sc_lowest : FnScope ["top", "under", "shared"] ["top", "under"] (defScope (top 12)) := ⟨rfl, rfl, rfl, by decide +kernel, rfl, by decide +kernel, by decide +kernel⟩
theorem cc_as_number : cSs ct_as_number [] 60 (defBody (top 13)) = some cs_as_number := by kernel_rfl
theorem sc_as_number : FnScope ["value"] ["value"] (defScope (top 13)) := ⟨rfl, rfl, rfl, by decide +kernel, rfl, by decide +kernel, by decide +kernel⟩
theorem cc_sum_of : cSs ct_sum_of [] 60 (defBody (top 14)) = some cs_sum_of := by kernel_rfl
theorem sc_sum_of : FnScope ["one", "other"] ["one", "other"] (defScope (top 14)) := ⟨rfl, rfl, rfl, by decide +kernel, rfl, by decide +kernel, by decide +kernel⟩
theorem cc_rest_of : cSs ct_rest_of [] 60 (defBody (top 15)) = some cs_rest_of := by kernel_rfl
theorem sc_rest_of : FnScope ["one", "other"] ["one", "other"] (defScope (top 15)) := ⟨rfl, rfl, rfl, by decide +kernel, rfl, by decide +kernel, by decide +kernel⟩
theorem cc_product_of : cSs ct_product_of [] 60 (defBody (top 16)) = some cs_product_of := by kernel_rfl
theorem sc_product_of : FnScope ["one", "other"] ["one", "other"] (defScope (top 16)) := ⟨rfl, rfl, rfl, by decide +kernel, rfl, by decide +kernel, by decide +kernel⟩
theorem cc_checked : cSs ct_checked [] 60 (defBody (top 17)) = some cs_checked := by kernel_rfl
theorem sc_checked : FnScope ["value", "part"] ["value", "part"] (defScope (top 17)) := ⟨rfl, rfl, rfl, by decide +kernel, rfl, by decide +kernel, by decide +kernel⟩
theorem cc_as_point : cSs ct_as_point [] 60 (defBody (top 19)) = some cs_as_point := by kernel_rfl
theorem sc_as_point : FnScope ["value"] ["value"] (defScope (top 19)) := ⟨rfl, rfl, rfl, by decide +kernel, rfl, by decide +kernel, by decide +kernel⟩
theorem cc_sum_points : cSs ct_sum_points [] 60 (defBody (top 20)) = some cs_sum_points := by kernel_rfl
theorem sc_sum_points : FnScope ["one", "other"] ["one", "other"] (defScope (top 20)) := ⟨rfl, rfl, rfl, by decide +kernel, rfl, by decide +kernel, by decide +kernel⟩
theorem cc_rest_points : cSs ct_rest_points [] 60 (defBody (top 21)) = some cs_rest_points := by kernel_rfl
theorem sc_rest_points : FnScope ["one", "other"] ["one", "other"] (defScope (top 21)) := ⟨rfl, rfl, rfl, by decide +kernel, rfl, by decide +kernel, by decide +kernel⟩
theorem cc_times_point : cSs ct_times_point [] 60 (defBody (top 22)) = some cs_times_point := by kernel_rfl
theorem sc_times_point : FnScope ["vector", "factor"] ["vector", "factor"] (defScope (top 22)) := ⟨rfl, rfl, rfl, by decide +kernel, rfl, by decide +kernel, by decide +kernel⟩
theorem cc_turned_point : cSs ct_turned_point [] 60 (defBody (top 23)) = some cs_turned_point := by kernel_rfl
theorem sc_turned_point : FnScope ["vector", "x", "y"] ["vector"] (defScope (top 23)) := ⟨rfl, rfl, rfl, by decide +kernel, rfl, by decide +kernel, by decide +kernel⟩
theorem cc_cross_of : cSs ct_cross_of [] 60 (defBody (top 24)) = some cs_cross_of := by kernel_rfl
theorem sc_cross_of : FnScope ["one", "other"] ["one", "other"] (defScope (top 24)) := ⟨rfl, rfl, rfl, by decide +kernel, rfl, by decide +kernel, by decide +kernel⟩
theorem cc_dot_of : cSs ct_dot_of [] 60 (defBody (top 25)) = some cs_dot_of := by kernel_rfl
theorem sc_dot_of : FnScope ["one", "other"] ["one", "other"] (defScope (top 25)) := ⟨rfl, rfl, rfl, by decide +kernel, rfl, by decide +kernel, by decide +kernel⟩
theorem cc_checked_point : cSs ct_checked_point [] 60 (defBody (top 26)) = some cs_checked_point := by kernel_rfl
theorem sc_checked_point : FnScope ["value", "part"] ["value", "part"] (defScope (top 26)) := ⟨rfl, rfl, rfl, by decide +kernel, rfl, by decide +kernel, by decide +kernel⟩
theorem cc_point : cSs ct_point [] 60 (defBody (top 27)) = some cs_point := by kernel_rfl
theorem sc_point : FnScope ["x", "y", "first"] ["x", "y"] (defScope (top 27)) := ⟨rfl, rfl, rfl, by decide +kernel, rfl, by decide +kernel, by decide +kernel⟩
theorem cc_added : cSs ct_added [] 60 (defBody (top 28)) = some cs_added := by kernel_rfl
theorem sc_added : FnScope ["one", "other", "first"] ["one", "other"] (defScope (top 28)) := ⟨rfl, rfl, rfl, by decide +kernel, rfl, by decide +kernel, by decide +kernel⟩
theorem cc_taken : cSs ct_taken [] 60 (defBody (top 29)) = some cs_taken := by kernel_rfl
theorem sc_taken : FnScope ["one", "other", "first"] ["one", "other"] (defScope (top 29)) := ⟨rfl, rfl, rfl, by decide +kernel, rfl, by decide +kernel, by decide +kernel⟩
theorem cc_scaled : cSs ct_scaled [] 60 (defBody (top 30)) = some cs_scaled := by kernel_rfl
theorem sc_scaled : FnScope ["vector", "factor", "first"] ["vector", "factor"] (defScope (top 30)) := ⟨rfl, rfl, rfl, by decide +kernel, rfl, by decide +kernel, by decide +kernel⟩
theorem cc_quarter : cSs ct_quarter [] 60 (defBody (top 31)) = some cs_quarter := by kernel_rfl
theorem sc_quarter : FnScope ["vector"] ["vector"] (defScope (top 31)) := ⟨rfl, rfl, rfl, by decide +kernel, rfl, by decide +kernel, by decide +kernel⟩
theorem cc_cross : cSs ct_cross [] 60 (defBody (top 32)) = some cs_cross := by kernel_rfl
theorem sc_cross : FnScope ["one", "other", "first"] ["one", "other"] (defScope (top 32)) := ⟨rfl, rfl, rfl, by decide +kernel, rfl, by decide +kernel, by decide +kernel⟩
theorem cc_dot : cSs ct_dot [] 60 (defBody (top 33)) = some cs_dot := by kernel_rfl
theorem sc_dot : FnScope ["one", "other", "first"] ["one", "other"] (defScope (top 33)) := ⟨rfl, rfl, rfl, by decide +kernel, rfl, by decide +kernel, by decide +kernel⟩
theorem cc_squared : cSs ct_squared [] 60 (defBody (top 34)) = some cs_squared := by kernel_rfl
theorem sc_squared : FnScope ["one", "other", "first", "gap"] ["one", "other"] (defScope (top 34)) := ⟨rfl, rfl, rfl, by decide +kernel, rfl, by decide +kernel, by decide +kernel⟩
theorem cc_share_between : cSs ct_share_between [] 60 (defBody (top 36)) = some cs_share_between := by kernel_rfl
theorem sc_share_between : FnScope ["one", "other", "share"] ["one", "other", "share"] (defScope (top 36)) := ⟨rfl, rfl, rfl, by decide +kernel, rfl, by decide +kernel, by decide +kernel⟩
theorem cc_between : cSs ct_between [] 60 (defBody (top 35)) = some cs_between := by kernel_rfl
theorem sc_between : FnScope ["one", "other", "share", "first", "second"] ["one", "other", "share"] (defScope (top 35)) := ⟨rfl, rfl, rfl, by decide +kernel, rfl, by decide +kernel, by decide +kernel⟩
theorem cc__law_vase : cE ct__law_vase 60 (match defBody (top 38) with | [.Return (some e) _] => e | _ => .Constant .none 0 ⟨0, 0, 0, 0⟩) = some (.lst es__law_vase) := by kernel_rfl
theorem sc__law_vase : FnScope ["script", "cell"] ["script"] (defScope (top 38)) := ⟨rfl, rfl, rfl, by decide +kernel, rfl, by decide +kernel, by decide +kernel⟩
theorem cc__law_fill : cSs ct__law_fill [] 60 (defBody (top 39)) = some cs__law_fill := by kernel_rfl
theorem sc__law_fill : FnScope ["vase", "many", "at", "cell", "mixed", "rest"] ["vase", "many"] (defScope (top 39)) := ⟨rfl, rfl, rfl, by decide +kernel, rfl, by decide +kernel, by decide +kernel⟩
theorem cc__law_one_of : cSs ct__law_one_of [] 60 (defBody (top 40)) = some cs__law_one_of := by kernel_rfl
theorem sc__law_one_of : FnScope ["vase", "some"] ["vase", "some"] (defScope (top 40)) := ⟨rfl, rfl, rfl, by decide +kernel, rfl, by decide +kernel, by decide +kernel⟩
theorem cc__law_shared : cSs ct__law_shared [] 60 (defBody (top 41)) = some cs__law_shared := by kernel_rfl
theorem sc__law_shared : FnScope ["one", "other", "turn", "a", "b"] ["one", "other"] (defScope (top 41)) := ⟨rfl, rfl, rfl, by decide +kernel, rfl, by decide +kernel, by decide +kernel⟩
theorem cc__law_low : cSs ct__law_low [] 60 (defBody (top 42)) = some cs__law_low := by kernel_rfl
theorem sc__law_low : FnScope ["top", "under", "shared"] ["top", "under"] (defScope (top 42)) := ⟨rfl, rfl, rfl, by decide +kernel, rfl, by decide +kernel, by decide +kernel⟩
theorem cc__law_sum : cSs ct__law_sum [] 60 (defBody (top 43)) = some cs__law_sum := by kernel_rfl
theorem sc__law_sum : FnScope ["one", "other"] ["one", "other"] (defScope (top 43)) := ⟨rfl, rfl, rfl, by decide +kernel, rfl, by decide +kernel, by decide +kernel⟩
theorem cc__law_product : cSs ct__law_product [] 60 (defBody (top 44)) = some cs__law_product := by kernel_rfl
theorem sc__law_product : FnScope ["one", "other"] ["one", "other"] (defScope (top 44)) := ⟨rfl, rfl, rfl, by decide +kernel, rfl, by decide +kernel, by decide +kernel⟩
theorem cc__law_less : cSs ct__law_less [] 60 (defBody (top 45)) = some cs__law_less := by kernel_rfl
theorem sc__law_less : FnScope ["one", "other"] ["one", "other"] (defScope (top 45)) := ⟨rfl, rfl, rfl, by decide +kernel, rfl, by decide +kernel, by decide +kernel⟩
theorem cc__law_drawn : cSs ct__law_drawn [] 60 (defBody (top 46)) = some cs__law_drawn := by kernel_rfl
theorem sc__law_drawn : FnScope ["vase", "top", "under"] ["vase"] (defScope (top 46)) := ⟨rfl, rfl, rfl, by decide +kernel, rfl, by decide +kernel, by decide +kernel⟩
theorem cc__law_spot : cSs ct__law_spot [] 60 (defBody (top 47)) = some cs__law_spot := by kernel_rfl
theorem sc__law_spot : FnScope ["vase"] ["vase"] (defScope (top 47)) := ⟨rfl, rfl, rfl, by decide +kernel, rfl, by decide +kernel, by decide +kernel⟩
theorem cc__law_passed : cSs ct__law_passed [] 60 (defBody (top 48)) = some cs__law_passed := by kernel_rfl
theorem sc__law_passed : FnScope ["vase", "spot", "parts", "pair"] ["vase", "spot"] (defScope (top 48)) := ⟨rfl, rfl, rfl, by decide +kernel, rfl, by decide +kernel, by decide +kernel⟩
theorem cc__law_done : cSs ct__law_done [] 60 (defBody (top 49)) = some cs__law_done := by kernel_rfl
theorem sc__law_done : FnScope ["way", "one", "other"] ["way", "one", "other"] (defScope (top 49)) := ⟨rfl, rfl, rfl, by decide +kernel, rfl, by decide +kernel, by decide +kernel⟩
theorem cc__law_part : cSs ct__law_part [] 60 (defBody (top 50)) = some cs__law_part := by kernel_rfl
theorem sc__law_part : FnScope ["way", "one", "other", "part", "error"] ["way", "one", "other"] (defScope (top 50)) := ⟨rfl, rfl, rfl, by decide +kernel, rfl, by decide +kernel, by decide +kernel⟩
theorem cc__law_other_part : cSs ct__law_other_part [] 60 (defBody (top 51)) = some cs__law_other_part := by kernel_rfl
theorem sc__law_other_part : FnScope ["way", "one", "other", "told", "error"] ["way", "one", "other"] (defScope (top 51)) := ⟨rfl, rfl, rfl, by decide +kernel, rfl, by decide +kernel, by decide +kernel⟩
theorem cc__law_sums_right : cSs ct__law_sums_right [] 60 (defBody (top 52)) = some cs__law_sums_right := by kernel_rfl
theorem sc__law_sums_right : FnScope ["vase", "due", "share", "one", "other", "x", "y", "a", "b", "c", "d"] ["vase"] (defScope (top 52)) := ⟨rfl, rfl, rfl, by decide +kernel, rfl, by decide +kernel, by decide +kernel⟩
theorem cc_law : cSs ct_lawL [] 60 ((defBody (top 53)).drop 1) = some cs_law := by kernel_rfl
theorem sc_law : FnScope ["script", "vase", "turn", "bad", "way", "odd", "some", "good", "number", "row", "at"] ["script"] (defScope (top 53)) := ⟨rfl, rfl, rfl, by decide +kernel, rfl, by decide +kernel, by decide +kernel⟩
/-! ### the module -/
def dd_is_integer : DefD := ⟨("is_integer", none), "is_integer", "is_integer", defArgs (top 2), defBody (top 2), defScope (top 2), [], []⟩
def dd_is_within : DefD := ⟨("is_within", none), "is_within", "is_within", defArgs (top 3), defBody (top 3), defScope (top 3), [], []⟩
def dd_is_number : DefD := ⟨("is_number", none), "is_number", "is_number", defArgs (top 4), defBody (top 4), defScope (top 4), [], []⟩
def dd_is_point : DefD := ⟨("is_point", none), "is_point", "is_point", defArgs (top 5), defBody (top 5), defScope (top 5), [], []⟩
def dd_are_points : DefD := ⟨("are_points", none), "are_points", "are_points", defArgs (top 6), defBody (top 6), defScope (top 6), [], []⟩
def dd_lowest : DefD := ⟨("lowest", none), "lowest", "lowest", defArgs (top 12), defBody (top 12), defScope (top 12), [], []⟩
def dd_as_number : DefD := ⟨("as_number", none), "as_number", "as_number", defArgs (top 13), defBody (top 13), defScope (top 13), [], []⟩
def dd_sum_of : DefD := ⟨("sum_of", none), "sum_of", "sum_of", defArgs (top 14), defBody (top 14), defScope (top 14), [], []⟩
def dd_rest_of : DefD := ⟨("rest_of", none), "rest_of", "rest_of", defArgs (top 15), defBody (top 15), defScope (top 15), [], []⟩
def dd_product_of : DefD := ⟨("product_of", none), "product_of", "product_of", defArgs (top 16), defBody (top 16), defScope (top 16), [], []⟩
def dd_checked : DefD := ⟨("checked", none), "checked", "checked", defArgs (top 17), defBody (top 17), defScope (top 17), [], []⟩
def dd_as_point : DefD := ⟨("as_point", none), "as_point", "as_point", defArgs (top 19), defBody (top 19), defScope (top 19), [], []⟩
def dd_sum_points : DefD := ⟨("sum_points", none), "sum_points", "sum_points", defArgs (top 20), defBody (top 20), defScope (top 20), [], []⟩
def dd_rest_points : DefD := ⟨("rest_points", none), "rest_points", "rest_points", defArgs (top 21), defBody (top 21), defScope (top 21), [], []⟩
def dd_times_point : DefD := ⟨("times_point", none), "times_point", "times_point", defArgs (top 22), defBody (top 22), defScope (top 22), [], []⟩
def dd_turned_point : DefD := ⟨("turned_point", none), "turned_point", "turned_point", defArgs (top 23), defBody (top 23), defScope (top 23), [], []⟩
def dd_cross_of : DefD := ⟨("cross_of", none), "cross_of", "cross_of", defArgs (top 24), defBody (top 24), defScope (top 24), [], []⟩
def dd_dot_of : DefD := ⟨("dot_of", none), "dot_of", "dot_of", defArgs (top 25), defBody (top 25), defScope (top 25), [], []⟩
def dd_checked_point : DefD := ⟨("checked_point", none), "checked_point", "checked_point", defArgs (top 26), defBody (top 26), defScope (top 26), [], []⟩
def dd_point : DefD := ⟨("point", none), "point", "point", defArgs (top 27), defBody (top 27), defScope (top 27), [], []⟩
def dd_added : DefD := ⟨("added", none), "added", "added", defArgs (top 28), defBody (top 28), defScope (top 28), [], []⟩
def dd_taken : DefD := ⟨("taken", none), "taken", "taken", defArgs (top 29), defBody (top 29), defScope (top 29), [], []⟩
def dd_scaled : DefD := ⟨("scaled", none), "scaled", "scaled", defArgs (top 30), defBody (top 30), defScope (top 30), [], []⟩
def dd_quarter : DefD := ⟨("quarter", none), "quarter", "quarter", defArgs (top 31), defBody (top 31), defScope (top 31), [], []⟩
def dd_cross : DefD := ⟨("cross", none), "cross", "cross", defArgs (top 32), defBody (top 32), defScope (top 32), [], []⟩
def dd_dot : DefD := ⟨("dot", none), "dot", "dot", defArgs (top 33), defBody (top 33), defScope (top 33), [], []⟩
def dd_squared : DefD := ⟨("squared", none), "squared", "squared", defArgs (top 34), defBody (top 34), defScope (top 34), [], []⟩
def dd_share_between : DefD := ⟨("share_between", none), "share_between", "share_between", defArgs (top 36), defBody (top 36), defScope (top 36), [], []⟩
def dd_between : DefD := ⟨("between", none), "between", "between", defArgs (top 35), defBody (top 35), defScope (top 35), [], []⟩
def dd__law_vase : DefD := ⟨("_law_vase", none), "_law_vase", "_law_vase", defArgs (top 38), defBody (top 38), defScope (top 38), [], []⟩
def dd__law_fill : DefD := ⟨("_law_fill", none), "_law_fill", "_law_fill", defArgs (top 39), defBody (top 39), defScope (top 39), [], []⟩
def dd__law_one_of : DefD := ⟨("_law_one_of", none), "_law_one_of", "_law_one_of", defArgs (top 40), defBody (top 40), defScope (top 40), [], []⟩
def dd__law_shared : DefD := ⟨("_law_shared", none), "_law_shared", "_law_shared", defArgs (top 41), defBody (top 41), defScope (top 41), [], []⟩
def dd__law_low : DefD := ⟨("_law_low", none), "_law_low", "_law_low", defArgs (top 42), defBody (top 42), defScope (top 42), [], []⟩
def dd__law_sum : DefD := ⟨("_law_sum", none), "_law_sum", "_law_sum", defArgs (top 43), defBody (top 43), defScope (top 43), [], []⟩
def dd__law_product : DefD := ⟨("_law_product", none), "_law_product", "_law_product", defArgs (top 44), defBody (top 44), defScope (top 44), [], []⟩
def dd__law_less : DefD := ⟨("_law_less", none), "_law_less", "_law_less", defArgs (top 45), defBody (top 45), defScope (top 45), [], []⟩
def dd__law_drawn : DefD := ⟨("_law_drawn", none), "_law_drawn", "_law_drawn", defArgs (top 46), defBody (top 46), defScope (top 46), [], []⟩
def dd__law_spot : DefD := ⟨("_law_spot", none), "_law_spot", "_law_spot", defArgs (top 47), defBody (top 47), defScope (top 47), [], []⟩
def dd__law_passed : DefD := ⟨("_law_passed", none), "_law_passed", "_law_passed", defArgs (top 48), defBody (top 48), defScope (top 48), [], []⟩
def dd__law_done : DefD := ⟨("_law_done", none), "_law_done", "_law_done", defArgs (top 49), defBody (top 49), defScope (top 49), [], []⟩
def dd__law_part : DefD := ⟨("_law_part", none), "_law_part", "_law_part", defArgs (top 50), defBody (top 50), defScope (top 50), [], []⟩
def dd__law_other_part : DefD := ⟨("_law_other_part", none), "_law_other_part", "_law_other_part", defArgs (top 51), defBody (top 51), defScope (top 51), [], []⟩
def dd__law_sums_right : DefD := ⟨("_law_sums_right", none), "_law_sums_right", "_law_sums_right", defArgs (top 52), defBody (top 52), defScope (top 52), [], []⟩
def dd_law : DefD := ⟨("law", none), "law", "law", defArgs (top 53), defBody (top 53), defScope (top 53), [], []⟩
def fnL : List DefD := [dd_is_integer, dd_is_within, dd_is_number, dd_is_point, dd_are_points, dd_lowest, dd_as_number, dd_sum_of, dd_rest_of, dd_product_of, dd_checked, dd_as_point, dd_sum_points, dd_rest_points, dd_times_point, dd_turned_point, dd_cross_of, dd_dot_of, dd_checked_point, dd_point, dd_added, dd_taken, dd_scaled, dd_quarter, dd_cross, dd_dot, dd_squared, dd_share_between, dd_between, dd__law_vase, dd__law_fill, dd__law_one_of, dd__law_shared, dd__law_low, dd__law_sum, dd__law_product, dd__law_less, dd__law_drawn, dd__law_spot, dd__law_passed, dd__law_done, dd__law_part, dd__law_other_part, dd__law_sums_right, dd_law]
def faL : List Fa := [.free "isinstance", .free "int", .free "bool", .free "len", .free "list", .free "tuple", .free "all", .free "abs", .free "range", .free "repr", .free "super", .glo "is_integer", .glo "is_within", .glo "is_number", .glo "is_point", .glo "are_points", .glo "lowest", .glo "as_number", .glo "sum_of", .glo "rest_of", .glo "product_of", .glo "checked", .glo "as_point", .glo "sum_points", .glo "rest_points", .glo "times_point", .glo "turned_point", .glo "cross_of", .glo "dot_of", .glo "checked_point", .glo "point", .glo "added", .glo "taken", .glo "scaled", .glo "quarter", .glo "cross", .glo "dot", .glo "squared", .glo "share_between", .glo "between", .glo "_law_vase", .glo "_law_fill", .glo "_law_one_of", .glo "_law_shared", .glo "_law_low", .glo "_law_sum", .glo "_law_product", .glo "_law_less", .glo "_law_drawn", .glo "_law_spot", .glo "_law_passed", .glo "_law_done", .glo "_law_part", .glo "_law_other_part", .glo "_law_sums_right", .glo "law", .glo "BadNumber", .glo "BadPoint", .exm "BadNumber" "BadPoint" false, .exm "BadPoint" "BadPoint" true, .exm "BadNumber" "BadNumber" true, .exm "BadPoint" "BadNumber" false, .noat "BadNumber" "part", .noat "BadPoint" "part"]
def exL (K : Frag) : Bool := decide (nsIn K mainGlobals "gcd" = some (some (.builtin "math.gcd")))
abbrev fileL : Str := PySem.Challenge.pw_oddsquares_k02_points_and_vectors.main.file
abbrev PL : Program := PySem.Challenge.pw_oddsquares_k02_points_and_vectors
section
variable {w : World} {K : Frag} {h : Heap} {mg : MG} {base : Heap}
abbrev Says (K : Frag) : Prop := SaysE faL fnL esL fileL exL K
theorem fac (c : Says K) (i : Nat) {f : Fa} (e : faL[i]? = some f := by rfl) : f.ok K = true := c.d.fact i e
theorem er0 (c : Says K) : ErrT PL K (ga K "BadNumber") (iAd K "BadNumber") (ccA K "BadNumber") (cdA K "BadNumber") ["part"] ∧ XfC K (ga K "BadNumber") := errT_of (e := ed0) (c.err 0 rfl).1 (c.err 0 rfl).2 et0 (by kernel_rfl)
theorem er1 (c : Says K) : ErrT PL K (ga K "BadPoint") (iAd K "BadPoint") (ccA K "BadPoint") (cdA K "BadPoint") ["part"] ∧ XfC K (ga K "BadPoint") := errT_of (e := ed1) (c.err 1 rfl).1 (c.err 1 rfl).2 et1 (by kernel_rfl)
theorem sbs (X : K.In h) (G : h.Ns mainGlobals mg) (c : Says K) {Γ : Gam} (e : Γ.sub = subOf subT) (fl : List Str) (hf : ∀ f, f ∈ fl → f ∈ (["part"] : List Str)) : Subs K mg fl Γ := by
  refine subs_of e ?_
  exact fa_cons ⟨_, _, glo_ok X G (fac c 56), glo_ok X G (fac c 57), exm_ok (fac c 58), (er0 c).2, fun f hm => (show ∀ f, f ∈ (["part"] : List Str) → findIn K (.ref (ga K "BadNumber")) f = some none from (fa_cons (noat_ok (fac c 62)) fa_nil)) f (hf f hm)⟩ (fa_cons ⟨_, _, glo_ok X G (fac c 57), glo_ok X G (fac c 57), exm_ok (fac c 59), (er1 c).2, fun f hm => (show ∀ f, f ∈ (["part"] : List Str) → findIn K (.ref (ga K "BadPoint")) f = some none from (fa_cons (noat_ok (fac c 63)) fa_nil)) f (hf f hm)⟩ (fa_cons ⟨_, _, glo_ok X G (fac c 56), glo_ok X G (fac c 56), exm_ok (fac c 60), (er0 c).2, fun f hm => (show ∀ f, f ∈ (["part"] : List Str) → findIn K (.ref (ga K "BadNumber")) f = some none from (fa_cons (noat_ok (fac c 62)) fa_nil)) f (hf f hm)⟩ (fa_cons ⟨_, _, glo_ok X G (fac c 57), glo_ok X G (fac c 56), exm_ok (fac c 61), (er1 c).2, fun f hm => (show ∀ f, f ∈ (["part"] : List Str) → findIn K (.ref (ga K "BadPoint")) f = some none from (fa_cons (noat_ok (fac c 63)) fa_nil)) f (hf f hm)⟩ (fa_nil))))
/-! is_integer -/
theorem pk_is_integer (c : Says K) : ∃ fd, FunD K "is_integer" "is_integer" (defArgs (top 2)) (defBody (top 2)) (defScope (top 2)) [] [] (ga K "is_integer") fd := c.d.def_ 0 (d := dd_is_integer) rfl
theorem bd_is_integer {fd : FuncData} (F : FunD K "is_integer" "is_integer" (defArgs (top 2)) (defBody (top 2)) (defScope (top 2)) [] [] (ga K "is_integer") fd) : Binds K fd ["value"] [] := F.bindsN fun _ _ _ _ _ _ us hl => match us, hl with | [_], _ => rfl
theorem wd_is_integer (X : K.In h) (G : h.Ns mainGlobals mg) (hb : K.In base) (hg : base.Ns mainGlobals mg) (c : Says K) : Wd PL w K mg base ct_is_integer.T g_is_integer 0 where
  fns := look_all fa_nil
  modes := fa_nil
  csts := look_all fa_nil
  bis := (fa_cons (free_ok X G (fac c 0)) (fa_cons (free_ok X G (fac c 1)) (fa_cons (free_ok X G (fac c 2)) fa_nil)))
  gcd := fun h => nomatch h
  exs := look_all fa_nil
  sup := fun h => absurd rfl h
  subs := subs_none rfl
  cls := fa_nil
theorem ok_is_integer (X : K.In h) (G : h.Ns mainGlobals mg) (hb : K.In base) (hg : base.Ns mainGlobals mg) (c : Says K) {fd : FuncData} (F : FunD K "is_integer" "is_integer" (defArgs (top 2)) (defBody (top 2)) (defScope (top 2)) [] [] (ga K "is_integer") fd) : FnG PL w K mg base (L2.CX PL w) 1 (ga K "is_integer") fd ["value"] (spD K mg 1 F_is_integer) :=
  def_ok F sc_is_integer (wd_is_integer X G hb hg c) rfl rfl rfl cc_is_integer
/-! is_within -/
theorem pk_is_within (c : Says K) : ∃ fd, FunD K "is_within" "is_within" (defArgs (top 3)) (defBody (top 3)) (defScope (top 3)) [] [] (ga K "is_within") fd := c.d.def_ 1 (d := dd_is_within) rfl
theorem bd_is_within {fd : FuncData} (F : FunD K "is_within" "is_within" (defArgs (top 3)) (defBody (top 3)) (defScope (top 3)) [] [] (ga K "is_within") fd) : Binds K fd ["value", "least", "most"] [] := F.bindsN fun _ _ _ _ _ _ us hl => match us, hl with | [_, _, _], _ => rfl
theorem wd_is_within (X : K.In h) (G : h.Ns mainGlobals mg) (hb : K.In base) (hg : base.Ns mainGlobals mg) (c : Says K) : Wd PL w K mg base ct_is_within.T g_is_within 1 where
  fns := look_all (fa_cons ⟨1, _, _, _, by decide, ok_is_integer X G hb hg c (pk_is_integer c).choose_spec, glo_ok X G (fac c 11), (pk_is_integer c).choose_spec.kp, bd_is_integer (pk_is_integer c).choose_spec⟩ fa_nil)
  modes := fa_nil
  csts := look_all fa_nil
  bis := fa_nil
  gcd := fun h => nomatch h
  exs := look_all fa_nil
  sup := fun h => absurd rfl h
  subs := subs_none rfl
  cls := fa_nil
theorem ok_is_within (X : K.In h) (G : h.Ns mainGlobals mg) (hb : K.In base) (hg : base.Ns mainGlobals mg) (c : Says K) {fd : FuncData} (F : FunD K "is_within" "is_within" (defArgs (top 3)) (defBody (top 3)) (defScope (top 3)) [] [] (ga K "is_within") fd) : FnG PL w K mg base (L2.CX PL w) 2 (ga K "is_within") fd ["value", "least", "most"] (spD K mg 3 F_is_within) :=
  def_ok F sc_is_within (wd_is_within X G hb hg c) rfl rfl rfl cc_is_within
/-! is_number -/
theorem pk_is_number (c : Says K) : ∃ fd, FunD K "is_number" "is_number" (defArgs (top 4)) (defBody (top 4)) (defScope (top 4)) [] [] (ga K "is_number") fd := c.d.def_ 2 (d := dd_is_number) rfl
theorem bd_is_number {fd : FuncData} (F : FunD K "is_number" "is_number" (defArgs (top 4)) (defBody (top 4)) (defScope (top 4)) [] [] (ga K "is_number") fd) : Binds K fd ["value"] [] := F.bindsN fun _ _ _ _ _ _ us hl => match us, hl with | [_], _ => rfl
theorem wd_is_number (X : K.In h) (G : h.Ns mainGlobals mg) (hb : K.In base) (hg : base.Ns mainGlobals mg) (c : Says K) : Wd PL w K mg base ct_is_number.T g_is_number 2 where
  fns := look_all (fa_cons ⟨1, _, _, _, by decide, ok_is_integer X G hb hg c (pk_is_integer c).choose_spec, glo_ok X G (fac c 11), (pk_is_integer c).choose_spec.kp, bd_is_integer (pk_is_integer c).choose_spec⟩ (fa_cons ⟨2, _, _, _, by decide, ok_is_within X G hb hg c (pk_is_within c).choose_spec, glo_ok X G (fac c 12), (pk_is_within c).choose_spec.kp, bd_is_within (pk_is_within c).choose_spec⟩ fa_nil))
  modes := fa_nil
  csts := look_all fa_nil
  bis := (fa_cons (free_ok X G (fac c 0)) (fa_cons (free_ok X G (fac c 3)) (fa_cons (free_ok X G (fac c 4)) (fa_cons (free_ok X G (fac c 5)) fa_nil))))
  gcd := fun _ => mg_of X G (of_decide_eq_true c.more)
  exs := look_all fa_nil
  sup := fun h => absurd rfl h
  subs := subs_none rfl
  cls := fa_nil
theorem ok_is_number (X : K.In h) (G : h.Ns mainGlobals mg) (hb : K.In base) (hg : base.Ns mainGlobals mg) (c : Says K) {fd : FuncData} (F : FunD K "is_number" "is_number" (defArgs (top 4)) (defBody (top 4)) (defScope (top 4)) [] [] (ga K "is_number") fd) : FnG PL w K mg base (L2.CX PL w) 3 (ga K "is_number") fd ["value"] (spD K mg 1 F_is_number) :=
  def_ok F sc_is_number (wd_is_number X G hb hg c) rfl rfl rfl cc_is_number
/-! is_point -/
theorem pk_is_point (c : Says K) : ∃ fd, FunD K "is_point" "is_point" (defArgs (top 5)) (defBody (top 5)) (defScope (top 5)) [] [] (ga K "is_point") fd := c.d.def_ 3 (d := dd_is_point) rfl
theorem bd_is_point {fd : FuncData} (F : FunD K "is_point" "is_point" (defArgs (top 5)) (defBody (top 5)) (defScope (top 5)) [] [] (ga K "is_point") fd) : Binds K fd ["value"] [] := F.bindsN fun _ _ _ _ _ _ us hl => match us, hl with | [_], _ => rfl
theorem md4_is_point {fd : FuncData} (F : FunD K "is_point" "is_point" (defArgs (top 5)) (defBody (top 5)) (defScope (top 5)) [] [] (ga K "is_point") fd) : ∃ its : List Value, Vals ([] : List V) its ∧ ∀ (s : Shared) (us ws : List Value), K.In s.heap → us.length = 0 → ws.length = (["value"] : List Str).length → BindsTo s fd ⟨us, (["value"] : List Str).zip ws⟩ ((["value"] : List Str).zip (us ++ (ws ++ its))) :=
  modeN F 0 ["value"] fun _ _ _ _ _ _ us ws h1 h2 => match us, ws, h1, h2 with | [], [_], _, _ => rfl
theorem wd_is_point (X : K.In h) (G : h.Ns mainGlobals mg) (hb : K.In base) (hg : base.Ns mainGlobals mg) (c : Says K) : Wd PL w K mg base ct_is_point.T g_is_point 3 where
  fns := look_all (fa_cons ⟨3, _, _, _, by decide, ok_is_number X G hb hg c (pk_is_number c).choose_spec, glo_ok X G (fac c 13), (pk_is_number c).choose_spec.kp, bd_is_number (pk_is_number c).choose_spec⟩ fa_nil)
  modes := fa_nil
  csts := look_all fa_nil
  bis := (fa_cons (free_ok X G (fac c 0)) (fa_cons (free_ok X G (fac c 3)) (fa_cons (free_ok X G (fac c 4)) (fa_cons (free_ok X G (fac c 5)) fa_nil))))
  gcd := fun h => nomatch h
  exs := look_all fa_nil
  sup := fun h => absurd rfl h
  subs := subs_none rfl
  cls := fa_nil
theorem ok_is_point (X : K.In h) (G : h.Ns mainGlobals mg) (hb : K.In base) (hg : base.Ns mainGlobals mg) (c : Says K) {fd : FuncData} (F : FunD K "is_point" "is_point" (defArgs (top 5)) (defBody (top 5)) (defScope (top 5)) [] [] (ga K "is_point") fd) : FnG PL w K mg base (L2.CX PL w) 4 (ga K "is_point") fd ["value"] (spD K mg 1 F_is_point) :=
  def_ok F sc_is_point (wd_is_point X G hb hg c) rfl rfl rfl cc_is_point
/-! are_points -/
theorem pk_are_points (c : Says K) : ∃ fd, FunD K "are_points" "are_points" (defArgs (top 6)) (defBody (top 6)) (defScope (top 6)) [] [] (ga K "are_points") fd := c.d.def_ 4 (d := dd_are_points) rfl
theorem bd_are_points {fd : FuncData} (F : FunD K "are_points" "are_points" (defArgs (top 6)) (defBody (top 6)) (defScope (top 6)) [] [] (ga K "are_points") fd) : Binds K fd ["value", "least", "most"] [] := F.bindsN fun _ _ _ _ _ _ us hl => match us, hl with | [_, _, _], _ => rfl
theorem md10_are_points {fd : FuncData} (F : FunD K "are_points" "are_points" (defArgs (top 6)) (defBody (top 6)) (defScope (top 6)) [] [] (ga K "are_points") fd) : ∃ its : List Value, Vals ([] : List V) its ∧ ∀ (s : Shared) (us ws : List Value), K.In s.heap → us.length = 0 → ws.length = (["value", "least", "most"] : List Str).length → BindsTo s fd ⟨us, (["value", "least", "most"] : List Str).zip ws⟩ ((["value", "least", "most"] : List Str).zip (us ++ (ws ++ its))) :=
  modeN F 0 ["value", "least", "most"] fun _ _ _ _ _ _ us ws h1 h2 => match us, ws, h1, h2 with | [], [_, _, _], _, _ => rfl
theorem wd_are_points (X : K.In h) (G : h.Ns mainGlobals mg) (hb : K.In base) (hg : base.Ns mainGlobals mg) (c : Says K) : Wd PL w K mg base ct_are_points.T g_are_points 4 where
  fns := look_all (fa_cons ⟨4, _, _, _, by decide, ok_is_point X G hb hg c (pk_is_point c).choose_spec, glo_ok X G (fac c 14), (pk_is_point c).choose_spec.kp, bd_is_point (pk_is_point c).choose_spec⟩ fa_nil)
  modes := fa_nil
  csts := look_all fa_nil
  bis := (fa_cons (free_ok X G (fac c 6)) (fa_cons (free_ok X G (fac c 0)) (fa_cons (free_ok X G (fac c 4)) (fa_cons (free_ok X G (fac c 5)) (fa_cons (free_ok X G (fac c 3)) fa_nil)))))
  gcd := fun h => nomatch h
  exs := look_all fa_nil
  sup := fun h => absurd rfl h
  subs := subs_none rfl
  cls := fa_nil
theorem ok_are_points (X : K.In h) (G : h.Ns mainGlobals mg) (hb : K.In base) (hg : base.Ns mainGlobals mg) (c : Says K) {fd : FuncData} (F : FunD K "are_points" "are_points" (defArgs (top 6)) (defBody (top 6)) (defScope (top 6)) [] [] (ga K "are_points") fd) : FnG PL w K mg base (L2.CX PL w) 5 (ga K "are_points") fd ["value", "least", "most"] (spD K mg 3 F_are_points) :=
  def_ok F sc_are_points (wd_are_points X G hb hg c) rfl rfl rfl cc_are_points
/-! lowest -/
theorem pk_lowest (c : Says K) : ∃ fd, FunD K "lowest" "lowest" (defArgs (top 12)) (defBody (top 12)) (defScope (top 12)) [] [] (ga K "lowest") fd := c.d.def_ 5 (d := dd_lowest) rfl
theorem bd_lowest {fd : FuncData} (F : FunD K "lowest" "lowest" (defArgs (top 12)) (defBody (top 12)) (defScope (top 12)) [] [] (ga K "lowest") fd) : Binds K fd ["top", "under"] [] := F.bindsN fun _ _ _ _ _ _ us hl => match us, hl with | [_, _], _ => rfl
theorem wd_lowest (X : K.In h) (G : h.Ns mainGlobals mg) (hb : K.In base) (hg : base.Ns mainGlobals mg) (c : Says K) : Wd PL w K mg base ct_lowest.T g_lowest 0 where
  fns := look_all fa_nil
  modes := fa_nil
  csts := look_all fa_nil
  bis := fa_nil
  gcd := fun _ => mg_of X G (of_decide_eq_true c.more)
  exs := look_all fa_nil
  sup := fun h => absurd rfl h
  subs := subs_none rfl
  cls := fa_nil
theorem ok_lowest (X : K.In h) (G : h.Ns mainGlobals mg) (hb : K.In base) (hg : base.Ns mainGlobals mg) (c : Says K) {fd : FuncData} (F : FunD K "lowest" "lowest" (defArgs (top 12)) (defBody (top 12)) (defScope (top 12)) [] [] (ga K "lowest") fd) : FnG PL w K mg base (L2.CX PL w) 1 (ga K "lowest") fd ["top", "under"] (spD K mg 2 F_lowest) :=
  def_ok F sc_lowest (wd_lowest X G hb hg c) rfl rfl rfl cc_lowest
/-! as_number -/
theorem pk_as_number (c : Says K) : ∃ fd, FunD K "as_number" "as_number" (defArgs (top 13)) (defBody (top 13)) (defScope (top 13)) [] [] (ga K "as_number") fd := c.d.def_ 6 (d := dd_as_number) rfl
theorem bd_as_number {fd : FuncData} (F : FunD K "as_number" "as_number" (defArgs (top 13)) (defBody (top 13)) (defScope (top 13)) [] [] (ga K "as_number") fd) : Binds K fd ["value"] [] := F.bindsN fun _ _ _ _ _ _ us hl => match us, hl with | [_], _ => rfl
theorem wd_as_number (X : K.In h) (G : h.Ns mainGlobals mg) (hb : K.In base) (hg : base.Ns mainGlobals mg) (c : Says K) : Wd PL w K mg base ct_as_number.T g_as_number 1 where
  fns := look_all (fa_cons ⟨1, _, _, _, by decide, ok_is_integer X G hb hg c (pk_is_integer c).choose_spec, glo_ok X G (fac c 11), (pk_is_integer c).choose_spec.kp, bd_is_integer (pk_is_integer c).choose_spec⟩ fa_nil)
  modes := fa_nil
  csts := look_all fa_nil
  bis := fa_nil
  gcd := fun h => nomatch h
  exs := look_all fa_nil
  sup := fun h => absurd rfl h
  subs := subs_none rfl
  cls := fa_nil
theorem ok_as_number (X : K.In h) (G : h.Ns mainGlobals mg) (hb : K.In base) (hg : base.Ns mainGlobals mg) (c : Says K) {fd : FuncData} (F : FunD K "as_number" "as_number" (defArgs (top 13)) (defBody (top 13)) (defScope (top 13)) [] [] (ga K "as_number") fd) : FnG PL w K mg base (L2.CX PL w) 2 (ga K "as_number") fd ["value"] (spD K mg 1 F_as_number) :=
  def_ok F sc_as_number (wd_as_number X G hb hg c) rfl rfl rfl cc_as_number
/-! sum_of -/
theorem pk_sum_of (c : Says K) : ∃ fd, FunD K "sum_of" "sum_of" (defArgs (top 14)) (defBody (top 14)) (defScope (top 14)) [] [] (ga K "sum_of") fd := c.d.def_ 7 (d := dd_sum_of) rfl
theorem bd_sum_of {fd : FuncData} (F : FunD K "sum_of" "sum_of" (defArgs (top 14)) (defBody (top 14)) (defScope (top 14)) [] [] (ga K "sum_of") fd) : Binds K fd ["one", "other"] [] := F.bindsN fun _ _ _ _ _ _ us hl => match us, hl with | [_, _], _ => rfl
theorem wd_sum_of (X : K.In h) (G : h.Ns mainGlobals mg) (hb : K.In base) (hg : base.Ns mainGlobals mg) (c : Says K) : Wd PL w K mg base ct_sum_of.T g_sum_of 1 where
  fns := look_all (fa_cons ⟨1, _, _, _, by decide, ok_lowest X G hb hg c (pk_lowest c).choose_spec, glo_ok X G (fac c 16), (pk_lowest c).choose_spec.kp, bd_lowest (pk_lowest c).choose_spec⟩ fa_nil)
  modes := fa_nil
  csts := look_all fa_nil
  bis := fa_nil
  gcd := fun h => nomatch h
  exs := look_all fa_nil
  sup := fun h => absurd rfl h
  subs := subs_none rfl
  cls := fa_nil
theorem ok_sum_of (X : K.In h) (G : h.Ns mainGlobals mg) (hb : K.In base) (hg : base.Ns mainGlobals mg) (c : Says K) {fd : FuncData} (F : FunD K "sum_of" "sum_of" (defArgs (top 14)) (defBody (top 14)) (defScope (top 14)) [] [] (ga K "sum_of") fd) : FnG PL w K mg base (L2.CX PL w) 2 (ga K "sum_of") fd ["one", "other"] (spD K mg 2 F_sum_of) :=
  def_ok F sc_sum_of (wd_sum_of X G hb hg c) rfl rfl rfl cc_sum_of
/-! rest_of -/
theorem pk_rest_of (c : Says K) : ∃ fd, FunD K "rest_of" "rest_of" (defArgs (top 15)) (defBody (top 15)) (defScope (top 15)) [] [] (ga K "rest_of") fd := c.d.def_ 8 (d := dd_rest_of) rfl
theorem bd_rest_of {fd : FuncData} (F : FunD K "rest_of" "rest_of" (defArgs (top 15)) (defBody (top 15)) (defScope (top 15)) [] [] (ga K "rest_of") fd) : Binds K fd ["one", "other"] [] := F.bindsN fun _ _ _ _ _ _ us hl => match us, hl with | [_, _], _ => rfl
theorem wd_rest_of (X : K.In h) (G : h.Ns mainGlobals mg) (hb : K.In base) (hg : base.Ns mainGlobals mg) (c : Says K) : Wd PL w K mg base ct_rest_of.T g_rest_of 1 where
  fns := look_all (fa_cons ⟨1, _, _, _, by decide, ok_lowest X G hb hg c (pk_lowest c).choose_spec, glo_ok X G (fac c 16), (pk_lowest c).choose_spec.kp, bd_lowest (pk_lowest c).choose_spec⟩ fa_nil)
  modes := fa_nil
  csts := look_all fa_nil
  bis := fa_nil
  gcd := fun h => nomatch h
  exs := look_all fa_nil
  sup := fun h => absurd rfl h
  subs := subs_none rfl
  cls := fa_nil
theorem ok_rest_of (X : K.In h) (G : h.Ns mainGlobals mg) (hb : K.In base) (hg : base.Ns mainGlobals mg) (c : Says K) {fd : FuncData} (F : FunD K "rest_of" "rest_of" (defArgs (top 15)) (defBody (top 15)) (defScope (top 15)) [] [] (ga K "rest_of") fd) : FnG PL w K mg base (L2.CX PL w) 2 (ga K "rest_of") fd ["one", "other"] (spD K mg 2 F_rest_of) :=
  def_ok F sc_rest_of (wd_rest_of X G hb hg c) rfl rfl rfl cc_rest_of
/-! product_of -/
theorem pk_product_of (c : Says K) : ∃ fd, FunD K "product_of" "product_of" (defArgs (top 16)) (defBody (top 16)) (defScope (top 16)) [] [] (ga K "product_of") fd := c.d.def_ 9 (d := dd_product_of) rfl
theorem bd_product_of {fd : FuncData} (F : FunD K "product_of" "product_of" (defArgs (top 16)) (defBody (top 16)) (defScope (top 16)) [] [] (ga K "product_of") fd) : Binds K fd ["one", "other"] [] := F.bindsN fun _ _ _ _ _ _ us hl => match us, hl with | [_, _], _ => rfl
theorem wd_product_of (X : K.In h) (G : h.Ns mainGlobals mg) (hb : K.In base) (hg : base.Ns mainGlobals mg) (c : Says K) : Wd PL w K mg base ct_product_of.T g_product_of 1 where
  fns := look_all (fa_cons ⟨1, _, _, _, by decide, ok_lowest X G hb hg c (pk_lowest c).choose_spec, glo_ok X G (fac c 16), (pk_lowest c).choose_spec.kp, bd_lowest (pk_lowest c).choose_spec⟩ fa_nil)
  modes := fa_nil
  csts := look_all fa_nil
  bis := fa_nil
  gcd := fun h => nomatch h
  exs := look_all fa_nil
  sup := fun h => absurd rfl h
  subs := subs_none rfl
  cls := fa_nil
theorem ok_product_of (X : K.In h) (G : h.Ns mainGlobals mg) (hb : K.In base) (hg : base.Ns mainGlobals mg) (c : Says K) {fd : FuncData} (F : FunD K "product_of" "product_of" (defArgs (top 16)) (defBody (top 16)) (defScope (top 16)) [] [] (ga K "product_of") fd) : FnG PL w K mg base (L2.CX PL w) 2 (ga K "product_of") fd ["one", "other"] (spD K mg 2 F_product_of) :=
  def_ok F sc_product_of (wd_product_of X G hb hg c) rfl rfl rfl cc_product_of
/-! checked -/
theorem pk_checked (c : Says K) : ∃ fd, FunD K "checked" "checked" (defArgs (top 17)) (defBody (top 17)) (defScope (top 17)) [] [] (ga K "checked") fd := c.d.def_ 10 (d := dd_checked) rfl
theorem bd_checked {fd : FuncData} (F : FunD K "checked" "checked" (defArgs (top 17)) (defBody (top 17)) (defScope (top 17)) [] [] (ga K "checked") fd) : Binds K fd ["value", "part"] [] := F.bindsN fun _ _ _ _ _ _ us hl => match us, hl with | [_, _], _ => rfl
theorem wd_checked (X : K.In h) (G : h.Ns mainGlobals mg) (hb : K.In base) (hg : base.Ns mainGlobals mg) (c : Says K) : Wd PL w K mg base ct_checked.T g_checked 3 where
  fns := look_all (fa_cons ⟨2, _, _, _, by decide, ok_as_number X G hb hg c (pk_as_number c).choose_spec, glo_ok X G (fac c 17), (pk_as_number c).choose_spec.kp, bd_as_number (pk_as_number c).choose_spec⟩ (fa_cons ⟨3, _, _, _, by decide, ok_is_number X G hb hg c (pk_is_number c).choose_spec, glo_ok X G (fac c 13), (pk_is_number c).choose_spec.kp, bd_is_number (pk_is_number c).choose_spec⟩ fa_nil))
  modes := fa_nil
  csts := look_all fa_nil
  bis := fa_nil
  gcd := fun h => nomatch h
  exs := look_all (fa_cons ⟨by kernel_rfl, _, _, _, _, (er0 c).1, glo_ok X G (fac c 56), by decide, by decide⟩ fa_nil)
  sup := fun _ => free_ok X G (fac c 10)
  subs := subs_none rfl
  cls := fa_nil
theorem ok_checked (X : K.In h) (G : h.Ns mainGlobals mg) (hb : K.In base) (hg : base.Ns mainGlobals mg) (c : Says K) {fd : FuncData} (F : FunD K "checked" "checked" (defArgs (top 17)) (defBody (top 17)) (defScope (top 17)) [] [] (ga K "checked") fd) : FnG PL w K mg base (L2.CX PL w) 4 (ga K "checked") fd ["value", "part"] (spD K mg 2 F_checked) :=
  def_ok F sc_checked (wd_checked X G hb hg c) rfl rfl rfl cc_checked
/-! as_point -/
theorem pk_as_point (c : Says K) : ∃ fd, FunD K "as_point" "as_point" (defArgs (top 19)) (defBody (top 19)) (defScope (top 19)) [] [] (ga K "as_point") fd := c.d.def_ 11 (d := dd_as_point) rfl
theorem bd_as_point {fd : FuncData} (F : FunD K "as_point" "as_point" (defArgs (top 19)) (defBody (top 19)) (defScope (top 19)) [] [] (ga K "as_point") fd) : Binds K fd ["value"] [] := F.bindsN fun _ _ _ _ _ _ us hl => match us, hl with | [_], _ => rfl
theorem wd_as_point (X : K.In h) (G : h.Ns mainGlobals mg) (hb : K.In base) (hg : base.Ns mainGlobals mg) (c : Says K) : Wd PL w K mg base ct_as_point.T g_as_point 2 where
  fns := look_all (fa_cons ⟨2, _, _, _, by decide, ok_as_number X G hb hg c (pk_as_number c).choose_spec, glo_ok X G (fac c 17), (pk_as_number c).choose_spec.kp, bd_as_number (pk_as_number c).choose_spec⟩ fa_nil)
  modes := fa_nil
  csts := look_all fa_nil
  bis := fa_nil
  gcd := fun h => nomatch h
  exs := look_all fa_nil
  sup := fun h => absurd rfl h
  subs := subs_none rfl
  cls := fa_nil
theorem ok_as_point (X : K.In h) (G : h.Ns mainGlobals mg) (hb : K.In base) (hg : base.Ns mainGlobals mg) (c : Says K) {fd : FuncData} (F : FunD K "as_point" "as_point" (defArgs (top 19)) (defBody (top 19)) (defScope (top 19)) [] [] (ga K "as_point") fd) : FnG PL w K mg base (L2.CX PL w) 3 (ga K "as_point") fd ["value"] (spD K mg 1 F_as_point) :=
  def_ok F sc_as_point (wd_as_point X G hb hg c) rfl rfl rfl cc_as_point
/-! sum_points -/
theorem pk_sum_points (c : Says K) : ∃ fd, FunD K "sum_points" "sum_points" (defArgs (top 20)) (defBody (top 20)) (defScope (top 20)) [] [] (ga K "sum_points") fd := c.d.def_ 12 (d := dd_sum_points) rfl
theorem bd_sum_points {fd : FuncData} (F : FunD K "sum_points" "sum_points" (defArgs (top 20)) (defBody (top 20)) (defScope (top 20)) [] [] (ga K "sum_points") fd) : Binds K fd ["one", "other"] [] := F.bindsN fun _ _ _ _ _ _ us hl => match us, hl with | [_, _], _ => rfl
theorem wd_sum_points (X : K.In h) (G : h.Ns mainGlobals mg) (hb : K.In base) (hg : base.Ns mainGlobals mg) (c : Says K) : Wd PL w K mg base ct_sum_points.T g_sum_points 2 where
  fns := look_all (fa_cons ⟨2, _, _, _, by decide, ok_sum_of X G hb hg c (pk_sum_of c).choose_spec, glo_ok X G (fac c 18), (pk_sum_of c).choose_spec.kp, bd_sum_of (pk_sum_of c).choose_spec⟩ fa_nil)
  modes := fa_nil
  csts := look_all fa_nil
  bis := fa_nil
  gcd := fun h => nomatch h
  exs := look_all fa_nil
  sup := fun h => absurd rfl h
  subs := subs_none rfl
  cls := fa_nil
theorem ok_sum_points (X : K.In h) (G : h.Ns mainGlobals mg) (hb : K.In base) (hg : base.Ns mainGlobals mg) (c : Says K) {fd : FuncData} (F : FunD K "sum_points" "sum_points" (defArgs (top 20)) (defBody (top 20)) (defScope (top 20)) [] [] (ga K "sum_points") fd) : FnG PL w K mg base (L2.CX PL w) 3 (ga K "sum_points") fd ["one", "other"] (spD K mg 2 F_sum_points) :=
  def_ok F sc_sum_points (wd_sum_points X G hb hg c) rfl rfl rfl cc_sum_points
/-! rest_points -/
theorem pk_rest_points (c : Says K) : ∃ fd, FunD K "rest_points" "rest_points" (defArgs (top 21)) (defBody (top 21)) (defScope (top 21)) [] [] (ga K "rest_points") fd := c.d.def_ 13 (d := dd_rest_points) rfl
theorem bd_rest_points {fd : FuncData} (F : FunD K "rest_points" "rest_points" (defArgs (top 21)) (defBody (top 21)) (defScope (top 21)) [] [] (ga K "rest_points") fd) : Binds K fd ["one", "other"] [] := F.bindsN fun _ _ _ _ _ _ us hl => match us, hl with | [_, _], _ => rfl
theorem wd_rest_points (X : K.In h) (G : h.Ns mainGlobals mg) (hb : K.In base) (hg : base.Ns mainGlobals mg) (c : Says K) : Wd PL w K mg base ct_rest_points.T g_rest_points 2 where
  fns := look_all (fa_cons ⟨2, _, _, _, by decide, ok_rest_of X G hb hg c (pk_rest_of c).choose_spec, glo_ok X G (fac c 19), (pk_rest_of c).choose_spec.kp, bd_rest_of (pk_rest_of c).choose_spec⟩ fa_nil)
  modes := fa_nil
  csts := look_all fa_nil
  bis := fa_nil
  gcd := fun h => nomatch h
  exs := look_all fa_nil
  sup := fun h => absurd rfl h
  subs := subs_none rfl
  cls := fa_nil
theorem ok_rest_points (X : K.In h) (G : h.Ns mainGlobals mg) (hb : K.In base) (hg : base.Ns mainGlobals mg) (c : Says K) {fd : FuncData} (F : FunD K "rest_points" "rest_points" (defArgs (top 21)) (defBody (top 21)) (defScope (top 21)) [] [] (ga K "rest_points") fd) : FnG PL w K mg base (L2.CX PL w) 3 (ga K "rest_points") fd ["one", "other"] (spD K mg 2 F_rest_points) :=
  def_ok F sc_rest_points (wd_rest_points X G hb hg c) rfl rfl rfl cc_rest_points
/-! times_point -/
theorem pk_times_point (c : Says K) : ∃ fd, FunD K "times_point" "times_point" (defArgs (top 22)) (defBody (top 22)) (defScope (top 22)) [] [] (ga K "times_point") fd := c.d.def_ 14 (d := dd_times_point) rfl
theorem bd_times_point {fd : FuncData} (F : FunD K "times_point" "times_point" (defArgs (top 22)) (defBody (top 22)) (defScope (top 22)) [] [] (ga K "times_point") fd) : Binds K fd ["vector", "factor"] [] := F.bindsN fun _ _ _ _ _ _ us hl => match us, hl with | [_, _], _ => rfl
theorem wd_times_point (X : K.In h) (G : h.Ns mainGlobals mg) (hb : K.In base) (hg : base.Ns mainGlobals mg) (c : Says K) : Wd PL w K mg base ct_times_point.T g_times_point 2 where
  fns := look_all (fa_cons ⟨2, _, _, _, by decide, ok_product_of X G hb hg c (pk_product_of c).choose_spec, glo_ok X G (fac c 20), (pk_product_of c).choose_spec.kp, bd_product_of (pk_product_of c).choose_spec⟩ fa_nil)
  modes := fa_nil
  csts := look_all fa_nil
  bis := fa_nil
  gcd := fun h => nomatch h
  exs := look_all fa_nil
  sup := fun h => absurd rfl h
  subs := subs_none rfl
  cls := fa_nil
theorem ok_times_point (X : K.In h) (G : h.Ns mainGlobals mg) (hb : K.In base) (hg : base.Ns mainGlobals mg) (c : Says K) {fd : FuncData} (F : FunD K "times_point" "times_point" (defArgs (top 22)) (defBody (top 22)) (defScope (top 22)) [] [] (ga K "times_point") fd) : FnG PL w K mg base (L2.CX PL w) 3 (ga K "times_point") fd ["vector", "factor"] (spD K mg 2 F_times_point) :=
  def_ok F sc_times_point (wd_times_point X G hb hg c) rfl rfl rfl cc_times_point
/-! turned_point -/
theorem pk_turned_point (c : Says K) : ∃ fd, FunD K "turned_point" "turned_point" (defArgs (top 23)) (defBody (top 23)) (defScope (top 23)) [] [] (ga K "turned_point") fd := c.d.def_ 15 (d := dd_turned_point) rfl
theorem bd_turned_point {fd : FuncData} (F : FunD K "turned_point" "turned_point" (defArgs (top 23)) (defBody (top 23)) (defScope (top 23)) [] [] (ga K "turned_point") fd) : Binds K fd ["vector"] [] := F.bindsN fun _ _ _ _ _ _ us hl => match us, hl with | [_], _ => rfl
theorem wd_turned_point (X : K.In h) (G : h.Ns mainGlobals mg) (hb : K.In base) (hg : base.Ns mainGlobals mg) (c : Says K) : Wd PL w K mg base ct_turned_point.T g_turned_point 0 where
  fns := look_all fa_nil
  modes := fa_nil
  csts := look_all fa_nil
  bis := fa_nil
  gcd := fun h => nomatch h
  exs := look_all fa_nil
  sup := fun h => absurd rfl h
  subs := subs_none rfl
  cls := fa_nil
theorem ok_turned_point (X : K.In h) (G : h.Ns mainGlobals mg) (hb : K.In base) (hg : base.Ns mainGlobals mg) (c : Says K) {fd : FuncData} (F : FunD K "turned_point" "turned_point" (defArgs (top 23)) (defBody (top 23)) (defScope (top 23)) [] [] (ga K "turned_point") fd) : FnG PL w K mg base (L2.CX PL w) 1 (ga K "turned_point") fd ["vector"] (spD K mg 1 F_turned_point) :=
  def_ok F sc_turned_point (wd_turned_point X G hb hg c) rfl rfl rfl cc_turned_point
/-! cross_of -/
theorem pk_cross_of (c : Says K) : ∃ fd, FunD K "cross_of" "cross_of" (defArgs (top 24)) (defBody (top 24)) (defScope (top 24)) [] [] (ga K "cross_of") fd := c.d.def_ 16 (d := dd_cross_of) rfl
theorem bd_cross_of {fd : FuncData} (F : FunD K "cross_of" "cross_of" (defArgs (top 24)) (defBody (top 24)) (defScope (top 24)) [] [] (ga K "cross_of") fd) : Binds K fd ["one", "other"] [] := F.bindsN fun _ _ _ _ _ _ us hl => match us, hl with | [_, _], _ => rfl
theorem wd_cross_of (X : K.In h) (G : h.Ns mainGlobals mg) (hb : K.In base) (hg : base.Ns mainGlobals mg) (c : Says K) : Wd PL w K mg base ct_cross_of.T g_cross_of 2 where
  fns := look_all (fa_cons ⟨2, _, _, _, by decide, ok_rest_of X G hb hg c (pk_rest_of c).choose_spec, glo_ok X G (fac c 19), (pk_rest_of c).choose_spec.kp, bd_rest_of (pk_rest_of c).choose_spec⟩ (fa_cons ⟨2, _, _, _, by decide, ok_product_of X G hb hg c (pk_product_of c).choose_spec, glo_ok X G (fac c 20), (pk_product_of c).choose_spec.kp, bd_product_of (pk_product_of c).choose_spec⟩ fa_nil))
  modes := fa_nil
  csts := look_all fa_nil
  bis := fa_nil
  gcd := fun h => nomatch h
  exs := look_all fa_nil
  sup := fun h => absurd rfl h
  subs := subs_none rfl
  cls := fa_nil
theorem ok_cross_of (X : K.In h) (G : h.Ns mainGlobals mg) (hb : K.In base) (hg : base.Ns mainGlobals mg) (c : Says K) {fd : FuncData} (F : FunD K "cross_of" "cross_of" (defArgs (top 24)) (defBody (top 24)) (defScope (top 24)) [] [] (ga K "cross_of") fd) : FnG PL w K mg base (L2.CX PL w) 3 (ga K "cross_of") fd ["one", "other"] (spD K mg 2 F_cross_of) :=
  def_ok F sc_cross_of (wd_cross_of X G hb hg c) rfl rfl rfl cc_cross_of
/-! dot_of -/
theorem pk_dot_of (c : Says K) : ∃ fd, FunD K "dot_of" "dot_of" (defArgs (top 25)) (defBody (top 25)) (defScope (top 25)) [] [] (ga K "dot_of") fd := c.d.def_ 17 (d := dd_dot_of) rfl
theorem bd_dot_of {fd : FuncData} (F : FunD K "dot_of" "dot_of" (defArgs (top 25)) (defBody (top 25)) (defScope (top 25)) [] [] (ga K "dot_of") fd) : Binds K fd ["one", "other"] [] := F.bindsN fun _ _ _ _ _ _ us hl => match us, hl with | [_, _], _ => rfl
theorem wd_dot_of (X : K.In h) (G : h.Ns mainGlobals mg) (hb : K.In base) (hg : base.Ns mainGlobals mg) (c : Says K) : Wd PL w K mg base ct_dot_of.T g_dot_of 2 where
  fns := look_all (fa_cons ⟨2, _, _, _, by decide, ok_sum_of X G hb hg c (pk_sum_of c).choose_spec, glo_ok X G (fac c 18), (pk_sum_of c).choose_spec.kp, bd_sum_of (pk_sum_of c).choose_spec⟩ (fa_cons ⟨2, _, _, _, by decide, ok_product_of X G hb hg c (pk_product_of c).choose_spec, glo_ok X G (fac c 20), (pk_product_of c).choose_spec.kp, bd_product_of (pk_product_of c).choose_spec⟩ fa_nil))
  modes := fa_nil
  csts := look_all fa_nil
  bis := fa_nil
  gcd := fun h => nomatch h
  exs := look_all fa_nil
  sup := fun h => absurd rfl h
  subs := subs_none rfl
  cls := fa_nil
theorem ok_dot_of (X : K.In h) (G : h.Ns mainGlobals mg) (hb : K.In base) (hg : base.Ns mainGlobals mg) (c : Says K) {fd : FuncData} (F : FunD K "dot_of" "dot_of" (defArgs (top 25)) (defBody (top 25)) (defScope (top 25)) [] [] (ga K "dot_of") fd) : FnG PL w K mg base (L2.CX PL w) 3 (ga K "dot_of") fd ["one", "other"] (spD K mg 2 F_dot_of) :=
  def_ok F sc_dot_of (wd_dot_of X G hb hg c) rfl rfl rfl cc_dot_of
/-! checked_point -/
theorem pk_checked_point (c : Says K) : ∃ fd, FunD K "checked_point" "checked_point" (defArgs (top 26)) (defBody (top 26)) (defScope (top 26)) [] [] (ga K "checked_point") fd := c.d.def_ 18 (d := dd_checked_point) rfl
theorem bd_checked_point {fd : FuncData} (F : FunD K "checked_point" "checked_point" (defArgs (top 26)) (defBody (top 26)) (defScope (top 26)) [] [] (ga K "checked_point") fd) : Binds K fd ["value", "part"] [] := F.bindsN fun _ _ _ _ _ _ us hl => match us, hl with | [_, _], _ => rfl
theorem wd_checked_point (X : K.In h) (G : h.Ns mainGlobals mg) (hb : K.In base) (hg : base.Ns mainGlobals mg) (c : Says K) : Wd PL w K mg base ct_checked_point.T g_checked_point 4 where
  fns := look_all (fa_cons ⟨3, _, _, _, by decide, ok_as_point X G hb hg c (pk_as_point c).choose_spec, glo_ok X G (fac c 22), (pk_as_point c).choose_spec.kp, bd_as_point (pk_as_point c).choose_spec⟩ (fa_cons ⟨4, _, _, _, by decide, ok_is_point X G hb hg c (pk_is_point c).choose_spec, glo_ok X G (fac c 14), (pk_is_point c).choose_spec.kp, bd_is_point (pk_is_point c).choose_spec⟩ fa_nil))
  modes := fa_nil
  csts := look_all fa_nil
  bis := fa_nil
  gcd := fun h => nomatch h
  exs := look_all (fa_cons ⟨by kernel_rfl, _, _, _, _, (er1 c).1, glo_ok X G (fac c 57), by decide, by decide⟩ fa_nil)
  sup := fun _ => free_ok X G (fac c 10)
  subs := subs_none rfl
  cls := fa_nil
theorem ok_checked_point (X : K.In h) (G : h.Ns mainGlobals mg) (hb : K.In base) (hg : base.Ns mainGlobals mg) (c : Says K) {fd : FuncData} (F : FunD K "checked_point" "checked_point" (defArgs (top 26)) (defBody (top 26)) (defScope (top 26)) [] [] (ga K "checked_point") fd) : FnG PL w K mg base (L2.CX PL w) 5 (ga K "checked_point") fd ["value", "part"] (spD K mg 2 F_checked_point) :=
  def_ok F sc_checked_point (wd_checked_point X G hb hg c) rfl rfl rfl cc_checked_point
/-! point -/
theorem pk_point (c : Says K) : ∃ fd, FunD K "point" "point" (defArgs (top 27)) (defBody (top 27)) (defScope (top 27)) [] [] (ga K "point") fd := c.d.def_ 19 (d := dd_point) rfl
theorem bd_point {fd : FuncData} (F : FunD K "point" "point" (defArgs (top 27)) (defBody (top 27)) (defScope (top 27)) [] [] (ga K "point") fd) : Binds K fd ["x", "y"] [] := F.bindsN fun _ _ _ _ _ _ us hl => match us, hl with | [_, _], _ => rfl
theorem md2_point {fd : FuncData} (F : FunD K "point" "point" (defArgs (top 27)) (defBody (top 27)) (defScope (top 27)) [] [] (ga K "point") fd) : ∃ its : List Value, Vals ([] : List V) its ∧ ∀ (s : Shared) (us ws : List Value), K.In s.heap → us.length = 0 → ws.length = (["x", "y"] : List Str).length → BindsTo s fd ⟨us, (["x", "y"] : List Str).zip ws⟩ ((["x", "y"] : List Str).zip (us ++ (ws ++ its))) :=
  modeN F 0 ["x", "y"] fun _ _ _ _ _ _ us ws h1 h2 => match us, ws, h1, h2 with | [], [_, _], _, _ => rfl
theorem wd_point (X : K.In h) (G : h.Ns mainGlobals mg) (hb : K.In base) (hg : base.Ns mainGlobals mg) (c : Says K) : Wd PL w K mg base ct_point.T g_point 4 where
  fns := look_all (fa_cons ⟨4, _, _, _, by decide, ok_checked X G hb hg c (pk_checked c).choose_spec, glo_ok X G (fac c 21), (pk_checked c).choose_spec.kp, bd_checked (pk_checked c).choose_spec⟩ fa_nil)
  modes := fa_nil
  csts := look_all fa_nil
  bis := fa_nil
  gcd := fun h => nomatch h
  exs := look_all fa_nil
  sup := fun h => absurd rfl h
  subs := subs_none rfl
  cls := fa_nil
theorem ok_point (X : K.In h) (G : h.Ns mainGlobals mg) (hb : K.In base) (hg : base.Ns mainGlobals mg) (c : Says K) {fd : FuncData} (F : FunD K "point" "point" (defArgs (top 27)) (defBody (top 27)) (defScope (top 27)) [] [] (ga K "point") fd) : FnG PL w K mg base (L2.CX PL w) 5 (ga K "point") fd ["x", "y"] (spD K mg 2 F_point) :=
  def_ok F sc_point (wd_point X G hb hg c) rfl rfl rfl cc_point
/-! added -/
theorem pk_added (c : Says K) : ∃ fd, FunD K "added" "added" (defArgs (top 28)) (defBody (top 28)) (defScope (top 28)) [] [] (ga K "added") fd := c.d.def_ 20 (d := dd_added) rfl
theorem bd_added {fd : FuncData} (F : FunD K "added" "added" (defArgs (top 28)) (defBody (top 28)) (defScope (top 28)) [] [] (ga K "added") fd) : Binds K fd ["one", "other"] [] := F.bindsN fun _ _ _ _ _ _ us hl => match us, hl with | [_, _], _ => rfl
theorem md0_added {fd : FuncData} (F : FunD K "added" "added" (defArgs (top 28)) (defBody (top 28)) (defScope (top 28)) [] [] (ga K "added") fd) : ∃ its : List Value, Vals ([] : List V) its ∧ ∀ (s : Shared) (us ws : List Value), K.In s.heap → us.length = 0 → ws.length = (["one", "other"] : List Str).length → BindsTo s fd ⟨us, (["one", "other"] : List Str).zip ws⟩ ((["one", "other"] : List Str).zip (us ++ (ws ++ its))) :=
  modeN F 0 ["one", "other"] fun _ _ _ _ _ _ us ws h1 h2 => match us, ws, h1, h2 with | [], [_, _], _, _ => rfl
theorem wd_added (X : K.In h) (G : h.Ns mainGlobals mg) (hb : K.In base) (hg : base.Ns mainGlobals mg) (c : Says K) : Wd PL w K mg base ct_added.T g_added 5 where
  fns := look_all (fa_cons ⟨5, _, _, _, by decide, ok_checked_point X G hb hg c (pk_checked_point c).choose_spec, glo_ok X G (fac c 29), (pk_checked_point c).choose_spec.kp, bd_checked_point (pk_checked_point c).choose_spec⟩ (fa_cons ⟨3, _, _, _, by decide, ok_sum_points X G hb hg c (pk_sum_points c).choose_spec, glo_ok X G (fac c 23), (pk_sum_points c).choose_spec.kp, bd_sum_points (pk_sum_points c).choose_spec⟩ fa_nil))
  modes := fa_nil
  csts := look_all fa_nil
  bis := fa_nil
  gcd := fun h => nomatch h
  exs := look_all fa_nil
  sup := fun h => absurd rfl h
  subs := subs_none rfl
  cls := fa_nil
theorem ok_added (X : K.In h) (G : h.Ns mainGlobals mg) (hb : K.In base) (hg : base.Ns mainGlobals mg) (c : Says K) {fd : FuncData} (F : FunD K "added" "added" (defArgs (top 28)) (defBody (top 28)) (defScope (top 28)) [] [] (ga K "added") fd) : FnG PL w K mg base (L2.CX PL w) 6 (ga K "added") fd ["one", "other"] (spD K mg 2 F_added) :=
  def_ok F sc_added (wd_added X G hb hg c) rfl rfl rfl cc_added
/-! taken -/
theorem pk_taken (c : Says K) : ∃ fd, FunD K "taken" "taken" (defArgs (top 29)) (defBody (top 29)) (defScope (top 29)) [] [] (ga K "taken") fd := c.d.def_ 21 (d := dd_taken) rfl
theorem bd_taken {fd : FuncData} (F : FunD K "taken" "taken" (defArgs (top 29)) (defBody (top 29)) (defScope (top 29)) [] [] (ga K "taken") fd) : Binds K fd ["one", "other"] [] := F.bindsN fun _ _ _ _ _ _ us hl => match us, hl with | [_, _], _ => rfl
theorem md1_taken {fd : FuncData} (F : FunD K "taken" "taken" (defArgs (top 29)) (defBody (top 29)) (defScope (top 29)) [] [] (ga K "taken") fd) : ∃ its : List Value, Vals ([] : List V) its ∧ ∀ (s : Shared) (us ws : List Value), K.In s.heap → us.length = 0 → ws.length = (["one", "other"] : List Str).length → BindsTo s fd ⟨us, (["one", "other"] : List Str).zip ws⟩ ((["one", "other"] : List Str).zip (us ++ (ws ++ its))) :=
  modeN F 0 ["one", "other"] fun _ _ _ _ _ _ us ws h1 h2 => match us, ws, h1, h2 with | [], [_, _], _, _ => rfl
theorem wd_taken (X : K.In h) (G : h.Ns mainGlobals mg) (hb : K.In base) (hg : base.Ns mainGlobals mg) (c : Says K) : Wd PL w K mg base ct_taken.T g_taken 5 where
  fns := look_all (fa_cons ⟨5, _, _, _, by decide, ok_checked_point X G hb hg c (pk_checked_point c).choose_spec, glo_ok X G (fac c 29), (pk_checked_point c).choose_spec.kp, bd_checked_point (pk_checked_point c).choose_spec⟩ (fa_cons ⟨3, _, _, _, by decide, ok_rest_points X G hb hg c (pk_rest_points c).choose_spec, glo_ok X G (fac c 24), (pk_rest_points c).choose_spec.kp, bd_rest_points (pk_rest_points c).choose_spec⟩ fa_nil))
  modes := fa_nil
  csts := look_all fa_nil
  bis := fa_nil
  gcd := fun h => nomatch h
  exs := look_all fa_nil
  sup := fun h => absurd rfl h
  subs := subs_none rfl
  cls := fa_nil
theorem ok_taken (X : K.In h) (G : h.Ns mainGlobals mg) (hb : K.In base) (hg : base.Ns mainGlobals mg) (c : Says K) {fd : FuncData} (F : FunD K "taken" "taken" (defArgs (top 29)) (defBody (top 29)) (defScope (top 29)) [] [] (ga K "taken") fd) : FnG PL w K mg base (L2.CX PL w) 6 (ga K "taken") fd ["one", "other"] (spD K mg 2 F_taken) :=
  def_ok F sc_taken (wd_taken X G hb hg c) rfl rfl rfl cc_taken
/-! scaled -/
theorem pk_scaled (c : Says K) : ∃ fd, FunD K "scaled" "scaled" (defArgs (top 30)) (defBody (top 30)) (defScope (top 30)) [] [] (ga K "scaled") fd := c.d.def_ 22 (d := dd_scaled) rfl
theorem bd_scaled {fd : FuncData} (F : FunD K "scaled" "scaled" (defArgs (top 30)) (defBody (top 30)) (defScope (top 30)) [] [] (ga K "scaled") fd) : Binds K fd ["vector", "factor"] [] := F.bindsN fun _ _ _ _ _ _ us hl => match us, hl with | [_, _], _ => rfl
theorem md3_scaled {fd : FuncData} (F : FunD K "scaled" "scaled" (defArgs (top 30)) (defBody (top 30)) (defScope (top 30)) [] [] (ga K "scaled") fd) : ∃ its : List Value, Vals ([] : List V) its ∧ ∀ (s : Shared) (us ws : List Value), K.In s.heap → us.length = 0 → ws.length = (["vector", "factor"] : List Str).length → BindsTo s fd ⟨us, (["vector", "factor"] : List Str).zip ws⟩ ((["vector", "factor"] : List Str).zip (us ++ (ws ++ its))) :=
  modeN F 0 ["vector", "factor"] fun _ _ _ _ _ _ us ws h1 h2 => match us, ws, h1, h2 with | [], [_, _], _, _ => rfl
theorem wd_scaled (X : K.In h) (G : h.Ns mainGlobals mg) (hb : K.In base) (hg : base.Ns mainGlobals mg) (c : Says K) : Wd PL w K mg base ct_scaled.T g_scaled 5 where
  fns := look_all (fa_cons ⟨5, _, _, _, by decide, ok_checked_point X G hb hg c (pk_checked_point c).choose_spec, glo_ok X G (fac c 29), (pk_checked_point c).choose_spec.kp, bd_checked_point (pk_checked_point c).choose_spec⟩ (fa_cons ⟨3, _, _, _, by decide, ok_times_point X G hb hg c (pk_times_point c).choose_spec, glo_ok X G (fac c 25), (pk_times_point c).choose_spec.kp, bd_times_point (pk_times_point c).choose_spec⟩ (fa_cons ⟨4, _, _, _, by decide, ok_checked X G hb hg c (pk_checked c).choose_spec, glo_ok X G (fac c 21), (pk_checked c).choose_spec.kp, bd_checked (pk_checked c).choose_spec⟩ fa_nil)))
  modes := fa_nil
  csts := look_all fa_nil
  bis := fa_nil
  gcd := fun h => nomatch h
  exs := look_all fa_nil
  sup := fun h => absurd rfl h
  subs := subs_none rfl
  cls := fa_nil
theorem ok_scaled (X : K.In h) (G : h.Ns mainGlobals mg) (hb : K.In base) (hg : base.Ns mainGlobals mg) (c : Says K) {fd : FuncData} (F : FunD K "scaled" "scaled" (defArgs (top 30)) (defBody (top 30)) (defScope (top 30)) [] [] (ga K "scaled") fd) : FnG PL w K mg base (L2.CX PL w) 6 (ga K "scaled") fd ["vector", "factor"] (spD K mg 2 F_scaled) :=
  def_ok F sc_scaled (wd_scaled X G hb hg c) rfl rfl rfl cc_scaled
/-! quarter -/
theorem pk_quarter (c : Says K) : ∃ fd, FunD K "quarter" "quarter" (defArgs (top 31)) (defBody (top 31)) (defScope (top 31)) [] [] (ga K "quarter") fd := c.d.def_ 23 (d := dd_quarter) rfl
theorem bd_quarter {fd : FuncData} (F : FunD K "quarter" "quarter" (defArgs (top 31)) (defBody (top 31)) (defScope (top 31)) [] [] (ga K "quarter") fd) : Binds K fd ["vector"] [] := F.bindsN fun _ _ _ _ _ _ us hl => match us, hl with | [_], _ => rfl
theorem md8_quarter {fd : FuncData} (F : FunD K "quarter" "quarter" (defArgs (top 31)) (defBody (top 31)) (defScope (top 31)) [] [] (ga K "quarter") fd) : ∃ its : List Value, Vals ([] : List V) its ∧ ∀ (s : Shared) (us ws : List Value), K.In s.heap → us.length = 0 → ws.length = (["vector"] : List Str).length → BindsTo s fd ⟨us, (["vector"] : List Str).zip ws⟩ ((["vector"] : List Str).zip (us ++ (ws ++ its))) :=
  modeN F 0 ["vector"] fun _ _ _ _ _ _ us ws h1 h2 => match us, ws, h1, h2 with | [], [_], _, _ => rfl
theorem wd_quarter (X : K.In h) (G : h.Ns mainGlobals mg) (hb : K.In base) (hg : base.Ns mainGlobals mg) (c : Says K) : Wd PL w K mg base ct_quarter.T g_quarter 5 where
  fns := look_all (fa_cons ⟨1, _, _, _, by decide, ok_turned_point X G hb hg c (pk_turned_point c).choose_spec, glo_ok X G (fac c 26), (pk_turned_point c).choose_spec.kp, bd_turned_point (pk_turned_point c).choose_spec⟩ (fa_cons ⟨5, _, _, _, by decide, ok_checked_point X G hb hg c (pk_checked_point c).choose_spec, glo_ok X G (fac c 29), (pk_checked_point c).choose_spec.kp, bd_checked_point (pk_checked_point c).choose_spec⟩ fa_nil))
  modes := fa_nil
  csts := look_all fa_nil
  bis := fa_nil
  gcd := fun h => nomatch h
  exs := look_all fa_nil
  sup := fun h => absurd rfl h
  subs := subs_none rfl
  cls := fa_nil
theorem ok_quarter (X : K.In h) (G : h.Ns mainGlobals mg) (hb : K.In base) (hg : base.Ns mainGlobals mg) (c : Says K) {fd : FuncData} (F : FunD K "quarter" "quarter" (defArgs (top 31)) (defBody (top 31)) (defScope (top 31)) [] [] (ga K "quarter") fd) : FnG PL w K mg base (L2.CX PL w) 6 (ga K "quarter") fd ["vector"] (spD K mg 1 F_quarter) :=
  def_ok F sc_quarter (wd_quarter X G hb hg c) rfl rfl rfl cc_quarter
/-! cross -/
theorem pk_cross (c : Says K) : ∃ fd, FunD K "cross" "cross" (defArgs (top 32)) (defBody (top 32)) (defScope (top 32)) [] [] (ga K "cross") fd := c.d.def_ 24 (d := dd_cross) rfl
theorem bd_cross {fd : FuncData} (F : FunD K "cross" "cross" (defArgs (top 32)) (defBody (top 32)) (defScope (top 32)) [] [] (ga K "cross") fd) : Binds K fd ["one", "other"] [] := F.bindsN fun _ _ _ _ _ _ us hl => match us, hl with | [_, _], _ => rfl
theorem md5_cross {fd : FuncData} (F : FunD K "cross" "cross" (defArgs (top 32)) (defBody (top 32)) (defScope (top 32)) [] [] (ga K "cross") fd) : ∃ its : List Value, Vals ([] : List V) its ∧ ∀ (s : Shared) (us ws : List Value), K.In s.heap → us.length = 0 → ws.length = (["one", "other"] : List Str).length → BindsTo s fd ⟨us, (["one", "other"] : List Str).zip ws⟩ ((["one", "other"] : List Str).zip (us ++ (ws ++ its))) :=
  modeN F 0 ["one", "other"] fun _ _ _ _ _ _ us ws h1 h2 => match us, ws, h1, h2 with | [], [_, _], _, _ => rfl
theorem wd_cross (X : K.In h) (G : h.Ns mainGlobals mg) (hb : K.In base) (hg : base.Ns mainGlobals mg) (c : Says K) : Wd PL w K mg base ct_cross.T g_cross 5 where
  fns := look_all (fa_cons ⟨5, _, _, _, by decide, ok_checked_point X G hb hg c (pk_checked_point c).choose_spec, glo_ok X G (fac c 29), (pk_checked_point c).choose_spec.kp, bd_checked_point (pk_checked_point c).choose_spec⟩ (fa_cons ⟨3, _, _, _, by decide, ok_cross_of X G hb hg c (pk_cross_of c).choose_spec, glo_ok X G (fac c 27), (pk_cross_of c).choose_spec.kp, bd_cross_of (pk_cross_of c).choose_spec⟩ fa_nil))
  modes := fa_nil
  csts := look_all fa_nil
  bis := fa_nil
  gcd := fun h => nomatch h
  exs := look_all fa_nil
  sup := fun h => absurd rfl h
  subs := subs_none rfl
  cls := fa_nil
theorem ok_cross (X : K.In h) (G : h.Ns mainGlobals mg) (hb : K.In base) (hg : base.Ns mainGlobals mg) (c : Says K) {fd : FuncData} (F : FunD K "cross" "cross" (defArgs (top 32)) (defBody (top 32)) (defScope (top 32)) [] [] (ga K "cross") fd) : FnG PL w K mg base (L2.CX PL w) 6 (ga K "cross") fd ["one", "other"] (spD K mg 2 F_cross) :=
  def_ok F sc_cross (wd_cross X G hb hg c) rfl rfl rfl cc_cross
/-! dot -/
theorem pk_dot (c : Says K) : ∃ fd, FunD K "dot" "dot" (defArgs (top 33)) (defBody (top 33)) (defScope (top 33)) [] [] (ga K "dot") fd := c.d.def_ 25 (d := dd_dot) rfl
theorem bd_dot {fd : FuncData} (F : FunD K "dot" "dot" (defArgs (top 33)) (defBody (top 33)) (defScope (top 33)) [] [] (ga K "dot") fd) : Binds K fd ["one", "other"] [] := F.bindsN fun _ _ _ _ _ _ us hl => match us, hl with | [_, _], _ => rfl
theorem md6_dot {fd : FuncData} (F : FunD K "dot" "dot" (defArgs (top 33)) (defBody (top 33)) (defScope (top 33)) [] [] (ga K "dot") fd) : ∃ its : List Value, Vals ([] : List V) its ∧ ∀ (s : Shared) (us ws : List Value), K.In s.heap → us.length = 0 → ws.length = (["one", "other"] : List Str).length → BindsTo s fd ⟨us, (["one", "other"] : List Str).zip ws⟩ ((["one", "other"] : List Str).zip (us ++ (ws ++ its))) :=
  modeN F 0 ["one", "other"] fun _ _ _ _ _ _ us ws h1 h2 => match us, ws, h1, h2 with | [], [_, _], _, _ => rfl
theorem wd_dot (X : K.In h) (G : h.Ns mainGlobals mg) (hb : K.In base) (hg : base.Ns mainGlobals mg) (c : Says K) : Wd PL w K mg base ct_dot.T g_dot 5 where
  fns := look_all (fa_cons ⟨5, _, _, _, by decide, ok_checked_point X G hb hg c (pk_checked_point c).choose_spec, glo_ok X G (fac c 29), (pk_checked_point c).choose_spec.kp, bd_checked_point (pk_checked_point c).choose_spec⟩ (fa_cons ⟨3, _, _, _, by decide, ok_dot_of X G hb hg c (pk_dot_of c).choose_spec, glo_ok X G (fac c 28), (pk_dot_of c).choose_spec.kp, bd_dot_of (pk_dot_of c).choose_spec⟩ fa_nil))
  modes := fa_nil
  csts := look_all fa_nil
  bis := fa_nil
  gcd := fun h => nomatch h
  exs := look_all fa_nil
  sup := fun h => absurd rfl h
  subs := subs_none rfl
  cls := fa_nil
theorem ok_dot (X : K.In h) (G : h.Ns mainGlobals mg) (hb : K.In base) (hg : base.Ns mainGlobals mg) (c : Says K) {fd : FuncData} (F : FunD K "dot" "dot" (defArgs (top 33)) (defBody (top 33)) (defScope (top 33)) [] [] (ga K "dot") fd) : FnG PL w K mg base (L2.CX PL w) 6 (ga K "dot") fd ["one", "other"] (spD K mg 2 F_dot) :=
  def_ok F sc_dot (wd_dot X G hb hg c) rfl rfl rfl cc_dot
/-! squared -/
theorem pk_squared (c : Says K) : ∃ fd, FunD K "squared" "squared" (defArgs (top 34)) (defBody (top 34)) (defScope (top 34)) [] [] (ga K "squared") fd := c.d.def_ 26 (d := dd_squared) rfl
theorem bd_squared {fd : FuncData} (F : FunD K "squared" "squared" (defArgs (top 34)) (defBody (top 34)) (defScope (top 34)) [] [] (ga K "squared") fd) : Binds K fd ["one", "other"] [] := F.bindsN fun _ _ _ _ _ _ us hl => match us, hl with | [_, _], _ => rfl
theorem md7_squared {fd : FuncData} (F : FunD K "squared" "squared" (defArgs (top 34)) (defBody (top 34)) (defScope (top 34)) [] [] (ga K "squared") fd) : ∃ its : List Value, Vals ([] : List V) its ∧ ∀ (s : Shared) (us ws : List Value), K.In s.heap → us.length = 0 → ws.length = (["one", "other"] : List Str).length → BindsTo s fd ⟨us, (["one", "other"] : List Str).zip ws⟩ ((["one", "other"] : List Str).zip (us ++ (ws ++ its))) :=
  modeN F 0 ["one", "other"] fun _ _ _ _ _ _ us ws h1 h2 => match us, ws, h1, h2 with | [], [_, _], _, _ => rfl
theorem wd_squared (X : K.In h) (G : h.Ns mainGlobals mg) (hb : K.In base) (hg : base.Ns mainGlobals mg) (c : Says K) : Wd PL w K mg base ct_squared.T g_squared 5 where
  fns := look_all (fa_cons ⟨5, _, _, _, by decide, ok_checked_point X G hb hg c (pk_checked_point c).choose_spec, glo_ok X G (fac c 29), (pk_checked_point c).choose_spec.kp, bd_checked_point (pk_checked_point c).choose_spec⟩ (fa_cons ⟨3, _, _, _, by decide, ok_rest_points X G hb hg c (pk_rest_points c).choose_spec, glo_ok X G (fac c 24), (pk_rest_points c).choose_spec.kp, bd_rest_points (pk_rest_points c).choose_spec⟩ (fa_cons ⟨3, _, _, _, by decide, ok_dot_of X G hb hg c (pk_dot_of c).choose_spec, glo_ok X G (fac c 28), (pk_dot_of c).choose_spec.kp, bd_dot_of (pk_dot_of c).choose_spec⟩ fa_nil)))
  modes := fa_nil
  csts := look_all fa_nil
  bis := fa_nil
  gcd := fun h => nomatch h
  exs := look_all fa_nil
  sup := fun h => absurd rfl h
  subs := subs_none rfl
  cls := fa_nil
theorem ok_squared (X : K.In h) (G : h.Ns mainGlobals mg) (hb : K.In base) (hg : base.Ns mainGlobals mg) (c : Says K) {fd : FuncData} (F : FunD K "squared" "squared" (defArgs (top 34)) (defBody (top 34)) (defScope (top 34)) [] [] (ga K "squared") fd) : FnG PL w K mg base (L2.CX PL w) 6 (ga K "squared") fd ["one", "other"] (spD K mg 2 F_squared) :=
  def_ok F sc_squared (wd_squared X G hb hg c) rfl rfl rfl cc_squared
/-! share_between -/
theorem pk_share_between (c : Says K) : ∃ fd, FunD K "share_between" "share_between" (defArgs (top 36)) (defBody (top 36)) (defScope (top 36)) [] [] (ga K "share_between") fd := c.d.def_ 27 (d := dd_share_between) rfl
theorem bd_share_between {fd : FuncData} (F : FunD K "share_between" "share_between" (defArgs (top 36)) (defBody (top 36)) (defScope (top 36)) [] [] (ga K "share_between") fd) : Binds K fd ["one", "other", "share"] [] := F.bindsN fun _ _ _ _ _ _ us hl => match us, hl with | [_, _, _], _ => rfl
theorem wd_share_between (X : K.In h) (G : h.Ns mainGlobals mg) (hb : K.In base) (hg : base.Ns mainGlobals mg) (c : Says K) : Wd PL w K mg base ct_share_between.T g_share_between 3 where
  fns := look_all (fa_cons ⟨3, _, _, _, by decide, ok_sum_points X G hb hg c (pk_sum_points c).choose_spec, glo_ok X G (fac c 23), (pk_sum_points c).choose_spec.kp, bd_sum_points (pk_sum_points c).choose_spec⟩ (fa_cons ⟨3, _, _, _, by decide, ok_times_point X G hb hg c (pk_times_point c).choose_spec, glo_ok X G (fac c 25), (pk_times_point c).choose_spec.kp, bd_times_point (pk_times_point c).choose_spec⟩ (fa_cons ⟨3, _, _, _, by decide, ok_rest_points X G hb hg c (pk_rest_points c).choose_spec, glo_ok X G (fac c 24), (pk_rest_points c).choose_spec.kp, bd_rest_points (pk_rest_points c).choose_spec⟩ fa_nil)))
  modes := fa_nil
  csts := look_all fa_nil
  bis := fa_nil
  gcd := fun h => nomatch h
  exs := look_all fa_nil
  sup := fun h => absurd rfl h
  subs := subs_none rfl
  cls := fa_nil
theorem ok_share_between (X : K.In h) (G : h.Ns mainGlobals mg) (hb : K.In base) (hg : base.Ns mainGlobals mg) (c : Says K) {fd : FuncData} (F : FunD K "share_between" "share_between" (defArgs (top 36)) (defBody (top 36)) (defScope (top 36)) [] [] (ga K "share_between") fd) : FnG PL w K mg base (L2.CX PL w) 4 (ga K "share_between") fd ["one", "other", "share"] (spD K mg 3 F_share_between) :=
  def_ok F sc_share_between (wd_share_between X G hb hg c) rfl rfl rfl cc_share_between
/-! between -/
theorem pk_between (c : Says K) : ∃ fd, FunD K "between" "between" (defArgs (top 35)) (defBody (top 35)) (defScope (top 35)) [] [] (ga K "between") fd := c.d.def_ 28 (d := dd_between) rfl
theorem bd_between {fd : FuncData} (F : FunD K "between" "between" (defArgs (top 35)) (defBody (top 35)) (defScope (top 35)) [] [] (ga K "between") fd) : Binds K fd ["one", "other", "share"] [] := F.bindsN fun _ _ _ _ _ _ us hl => match us, hl with | [_, _, _], _ => rfl
theorem md9_between {fd : FuncData} (F : FunD K "between" "between" (defArgs (top 35)) (defBody (top 35)) (defScope (top 35)) [] [] (ga K "between") fd) : ∃ its : List Value, Vals ([] : List V) its ∧ ∀ (s : Shared) (us ws : List Value), K.In s.heap → us.length = 0 → ws.length = (["one", "other", "share"] : List Str).length → BindsTo s fd ⟨us, (["one", "other", "share"] : List Str).zip ws⟩ ((["one", "other", "share"] : List Str).zip (us ++ (ws ++ its))) :=
  modeN F 0 ["one", "other", "share"] fun _ _ _ _ _ _ us ws h1 h2 => match us, ws, h1, h2 with | [], [_, _, _], _, _ => rfl
theorem wd_between (X : K.In h) (G : h.Ns mainGlobals mg) (hb : K.In base) (hg : base.Ns mainGlobals mg) (c : Says K) : Wd PL w K mg base ct_between.T g_between 5 where
  fns := look_all (fa_cons ⟨5, _, _, _, by decide, ok_checked_point X G hb hg c (pk_checked_point c).choose_spec, glo_ok X G (fac c 29), (pk_checked_point c).choose_spec.kp, bd_checked_point (pk_checked_point c).choose_spec⟩ (fa_cons ⟨4, _, _, _, by decide, ok_share_between X G hb hg c (pk_share_between c).choose_spec, glo_ok X G (fac c 38), (pk_share_between c).choose_spec.kp, bd_share_between (pk_share_between c).choose_spec⟩ (fa_cons ⟨4, _, _, _, by decide, ok_checked X G hb hg c (pk_checked c).choose_spec, glo_ok X G (fac c 21), (pk_checked c).choose_spec.kp, bd_checked (pk_checked c).choose_spec⟩ fa_nil)))
  modes := fa_nil
  csts := look_all fa_nil
  bis := fa_nil
  gcd := fun h => nomatch h
  exs := look_all fa_nil
  sup := fun h => absurd rfl h
  subs := subs_none rfl
  cls := fa_nil
theorem ok_between (X : K.In h) (G : h.Ns mainGlobals mg) (hb : K.In base) (hg : base.Ns mainGlobals mg) (c : Says K) {fd : FuncData} (F : FunD K "between" "between" (defArgs (top 35)) (defBody (top 35)) (defScope (top 35)) [] [] (ga K "between") fd) : FnG PL w K mg base (L2.CX PL w) 6 (ga K "between") fd ["one", "other", "share"] (spD K mg 3 F_between) :=
  def_ok F sc_between (wd_between X G hb hg c) rfl rfl rfl cc_between
/-! _law_vase -/
theorem pk__law_vase (c : Says K) : ∃ fd, FunD K "_law_vase" "_law_vase" (defArgs (top 38)) (defBody (top 38)) (defScope (top 38)) [] [] (ga K "_law_vase") fd := c.d.def_ 29 (d := dd__law_vase) rfl
theorem bd__law_vase {fd : FuncData} (F : FunD K "_law_vase" "_law_vase" (defArgs (top 38)) (defBody (top 38)) (defScope (top 38)) [] [] (ga K "_law_vase") fd) : Binds K fd ["script"] [] := F.bindsN fun _ _ _ _ _ _ us hl => match us, hl with | [_], _ => rfl
theorem wd__law_vase (X : K.In h) (G : h.Ns mainGlobals mg) (hb : K.In base) (hg : base.Ns mainGlobals mg) (c : Says K) : Wd PL w K mg base ct__law_vase.T g__law_vase 0 where
  fns := look_all fa_nil
  modes := fa_nil
  csts := look_all fa_nil
  bis := (fa_cons (free_ok X G (fac c 1)) fa_nil)
  gcd := fun h => nomatch h
  exs := look_all fa_nil
  sup := fun h => absurd rfl h
  subs := subs_none rfl
  cls := fa_nil
theorem ok__law_vase (X : K.In h) (G : h.Ns mainGlobals mg) (hb : K.In base) (hg : base.Ns mainGlobals mg) (c : Says K) {fd : FuncData} (F : FunD K "_law_vase" "_law_vase" (defArgs (top 38)) (defBody (top 38)) (defScope (top 38)) [] [] (ga K "_law_vase") fd) : FnG PL w K mg base (L2.CX PL w) 1 (ga K "_law_vase") fd ["script"] (spF K mg 1 F__law_vase) :=
  urn_ok F sc__law_vase (wd__law_vase X G hb hg c) rfl rfl rfl rfl cc__law_vase
/-! _law_fill -/
theorem pk__law_fill (c : Says K) : ∃ fd, FunD K "_law_fill" "_law_fill" (defArgs (top 39)) (defBody (top 39)) (defScope (top 39)) [] [] (ga K "_law_fill") fd := c.d.def_ 30 (d := dd__law_fill) rfl
theorem bd__law_fill {fd : FuncData} (F : FunD K "_law_fill" "_law_fill" (defArgs (top 39)) (defBody (top 39)) (defScope (top 39)) [] [] (ga K "_law_fill") fd) : Binds K fd ["vase", "many"] [] := F.bindsN fun _ _ _ _ _ _ us hl => match us, hl with | [_, _], _ => rfl
theorem wd__law_fill (X : K.In h) (G : h.Ns mainGlobals mg) (hb : K.In base) (hg : base.Ns mainGlobals mg) (c : Says K) : Wd PL w K mg base ct__law_fill.T g__law_fill 0 where
  fns := look_all fa_nil
  modes := fa_nil
  csts := look_all fa_nil
  bis := (fa_cons (free_ok X G (fac c 1)) (fa_cons (free_ok X G (fac c 3)) (fa_cons (free_ok X G (fac c 7)) fa_nil)))
  gcd := fun h => nomatch h
  exs := look_all fa_nil
  sup := fun h => absurd rfl h
  subs := subs_none rfl
  cls := fa_nil
theorem ok__law_fill (X : K.In h) (G : h.Ns mainGlobals mg) (hb : K.In base) (hg : base.Ns mainGlobals mg) (c : Says K) {fd : FuncData} (F : FunD K "_law_fill" "_law_fill" (defArgs (top 39)) (defBody (top 39)) (defScope (top 39)) [] [] (ga K "_law_fill") fd) : FnG PL w K mg base (L2.CX PL w) 1 (ga K "_law_fill") fd ["vase", "many"] (spD K mg 2 F__law_fill) :=
  def_ok F sc__law_fill (wd__law_fill X G hb hg c) rfl rfl rfl cc__law_fill
/-! _law_one_of -/
theorem pk__law_one_of (c : Says K) : ∃ fd, FunD K "_law_one_of" "_law_one_of" (defArgs (top 40)) (defBody (top 40)) (defScope (top 40)) [] [] (ga K "_law_one_of") fd := c.d.def_ 31 (d := dd__law_one_of) rfl
theorem bd__law_one_of {fd : FuncData} (F : FunD K "_law_one_of" "_law_one_of" (defArgs (top 40)) (defBody (top 40)) (defScope (top 40)) [] [] (ga K "_law_one_of") fd) : Binds K fd ["vase", "some"] [] := F.bindsN fun _ _ _ _ _ _ us hl => match us, hl with | [_, _], _ => rfl
theorem wd__law_one_of (X : K.In h) (G : h.Ns mainGlobals mg) (hb : K.In base) (hg : base.Ns mainGlobals mg) (c : Says K) : Wd PL w K mg base ct__law_one_of.T g__law_one_of 1 where
  fns := look_all (fa_cons ⟨1, _, _, _, by decide, ok__law_fill X G hb hg c (pk__law_fill c).choose_spec, glo_ok X G (fac c 41), (pk__law_fill c).choose_spec.kp, bd__law_fill (pk__law_fill c).choose_spec⟩ fa_nil)
  modes := fa_nil
  csts := look_all fa_nil
  bis := (fa_cons (free_ok X G (fac c 3)) fa_nil)
  gcd := fun h => nomatch h
  exs := look_all fa_nil
  sup := fun h => absurd rfl h
  subs := subs_none rfl
  cls := fa_nil
theorem ok__law_one_of (X : K.In h) (G : h.Ns mainGlobals mg) (hb : K.In base) (hg : base.Ns mainGlobals mg) (c : Says K) {fd : FuncData} (F : FunD K "_law_one_of" "_law_one_of" (defArgs (top 40)) (defBody (top 40)) (defScope (top 40)) [] [] (ga K "_law_one_of") fd) : FnG PL w K mg base (L2.CX PL w) 2 (ga K "_law_one_of") fd ["vase", "some"] (spD K mg 2 F__law_one_of) :=
  def_ok F sc__law_one_of (wd__law_one_of X G hb hg c) rfl rfl rfl cc__law_one_of
/-! _law_shared -/
theorem pk__law_shared (c : Says K) : ∃ fd, FunD K "_law_shared" "_law_shared" (defArgs (top 41)) (defBody (top 41)) (defScope (top 41)) [] [] (ga K "_law_shared") fd := c.d.def_ 32 (d := dd__law_shared) rfl
theorem bd__law_shared {fd : FuncData} (F : FunD K "_law_shared" "_law_shared" (defArgs (top 41)) (defBody (top 41)) (defScope (top 41)) [] [] (ga K "_law_shared") fd) : Binds K fd ["one", "other"] [] := F.bindsN fun _ _ _ _ _ _ us hl => match us, hl with | [_, _], _ => rfl
theorem wd__law_shared (X : K.In h) (G : h.Ns mainGlobals mg) (hb : K.In base) (hg : base.Ns mainGlobals mg) (c : Says K) : Wd PL w K mg base ct__law_shared.T g__law_shared 0 where
  fns := look_all fa_nil
  modes := fa_nil
  csts := look_all fa_nil
  bis := (fa_cons (free_ok X G (fac c 8)) (fa_cons (free_ok X G (fac c 7)) (fa_cons (free_ok X G (fac c 1)) fa_nil)))
  gcd := fun h => nomatch h
  exs := look_all fa_nil
  sup := fun h => absurd rfl h
  subs := subs_none rfl
  cls := fa_nil
theorem ok__law_shared (X : K.In h) (G : h.Ns mainGlobals mg) (hb : K.In base) (hg : base.Ns mainGlobals mg) (c : Says K) {fd : FuncData} (F : FunD K "_law_shared" "_law_shared" (defArgs (top 41)) (defBody (top 41)) (defScope (top 41)) [] [] (ga K "_law_shared") fd) : FnG PL w K mg base (L2.CX PL w) 1 (ga K "_law_shared") fd ["one", "other"] (spD K mg 2 F__law_shared) :=
  def_ok F sc__law_shared (wd__law_shared X G hb hg c) rfl rfl rfl cc__law_shared
/-! _law_low -/
theorem pk__law_low (c : Says K) : ∃ fd, FunD K "_law_low" "_law_low" (defArgs (top 42)) (defBody (top 42)) (defScope (top 42)) [] [] (ga K "_law_low") fd := c.d.def_ 33 (d := dd__law_low) rfl
theorem bd__law_low {fd : FuncData} (F : FunD K "_law_low" "_law_low" (defArgs (top 42)) (defBody (top 42)) (defScope (top 42)) [] [] (ga K "_law_low") fd) : Binds K fd ["top", "under"] [] := F.bindsN fun _ _ _ _ _ _ us hl => match us, hl with | [_, _], _ => rfl
theorem wd__law_low (X : K.In h) (G : h.Ns mainGlobals mg) (hb : K.In base) (hg : base.Ns mainGlobals mg) (c : Says K) : Wd PL w K mg base ct__law_low.T g__law_low 1 where
  fns := look_all (fa_cons ⟨1, _, _, _, by decide, ok__law_shared X G hb hg c (pk__law_shared c).choose_spec, glo_ok X G (fac c 43), (pk__law_shared c).choose_spec.kp, bd__law_shared (pk__law_shared c).choose_spec⟩ fa_nil)
  modes := fa_nil
  csts := look_all fa_nil
  bis := fa_nil
  gcd := fun h => nomatch h
  exs := look_all fa_nil
  sup := fun h => absurd rfl h
  subs := subs_none rfl
  cls := fa_nil
theorem ok__law_low (X : K.In h) (G : h.Ns mainGlobals mg) (hb : K.In base) (hg : base.Ns mainGlobals mg) (c : Says K) {fd : FuncData} (F : FunD K "_law_low" "_law_low" (defArgs (top 42)) (defBody (top 42)) (defScope (top 42)) [] [] (ga K "_law_low") fd) : FnG PL w K mg base (L2.CX PL w) 2 (ga K "_law_low") fd ["top", "under"] (spD K mg 2 F__law_low) :=
  def_ok F sc__law_low (wd__law_low X G hb hg c) rfl rfl rfl cc__law_low
/-! _law_sum -/
theorem pk__law_sum (c : Says K) : ∃ fd, FunD K "_law_sum" "_law_sum" (defArgs (top 43)) (defBody (top 43)) (defScope (top 43)) [] [] (ga K "_law_sum") fd := c.d.def_ 34 (d := dd__law_sum) rfl
theorem bd__law_sum {fd : FuncData} (F : FunD K "_law_sum" "_law_sum" (defArgs (top 43)) (defBody (top 43)) (defScope (top 43)) [] [] (ga K "_law_sum") fd) : Binds K fd ["one", "other"] [] := F.bindsN fun _ _ _ _ _ _ us hl => match us, hl with | [_, _], _ => rfl
theorem wd__law_sum (X : K.In h) (G : h.Ns mainGlobals mg) (hb : K.In base) (hg : base.Ns mainGlobals mg) (c : Says K) : Wd PL w K mg base ct__law_sum.T g__law_sum 2 where
  fns := look_all (fa_cons ⟨2, _, _, _, by decide, ok__law_low X G hb hg c (pk__law_low c).choose_spec, glo_ok X G (fac c 44), (pk__law_low c).choose_spec.kp, bd__law_low (pk__law_low c).choose_spec⟩ fa_nil)
  modes := fa_nil
  csts := look_all fa_nil
  bis := fa_nil
  gcd := fun h => nomatch h
  exs := look_all fa_nil
  sup := fun h => absurd rfl h
  subs := subs_none rfl
  cls := fa_nil
theorem ok__law_sum (X : K.In h) (G : h.Ns mainGlobals mg) (hb : K.In base) (hg : base.Ns mainGlobals mg) (c : Says K) {fd : FuncData} (F : FunD K "_law_sum" "_law_sum" (defArgs (top 43)) (defBody (top 43)) (defScope (top 43)) [] [] (ga K "_law_sum") fd) : FnG PL w K mg base (L2.CX PL w) 3 (ga K "_law_sum") fd ["one", "other"] (spD K mg 2 F__law_sum) :=
  def_ok F sc__law_sum (wd__law_sum X G hb hg c) rfl rfl rfl cc__law_sum
/-! _law_product -/
theorem pk__law_product (c : Says K) : ∃ fd, FunD K "_law_product" "_law_product" (defArgs (top 44)) (defBody (top 44)) (defScope (top 44)) [] [] (ga K "_law_product") fd := c.d.def_ 35 (d := dd__law_product) rfl
theorem bd__law_product {fd : FuncData} (F : FunD K "_law_product" "_law_product" (defArgs (top 44)) (defBody (top 44)) (defScope (top 44)) [] [] (ga K "_law_product") fd) : Binds K fd ["one", "other"] [] := F.bindsN fun _ _ _ _ _ _ us hl => match us, hl with | [_, _], _ => rfl
theorem wd__law_product (X : K.In h) (G : h.Ns mainGlobals mg) (hb : K.In base) (hg : base.Ns mainGlobals mg) (c : Says K) : Wd PL w K mg base ct__law_product.T g__law_product 2 where
  fns := look_all (fa_cons ⟨2, _, _, _, by decide, ok__law_low X G hb hg c (pk__law_low c).choose_spec, glo_ok X G (fac c 44), (pk__law_low c).choose_spec.kp, bd__law_low (pk__law_low c).choose_spec⟩ fa_nil)
  modes := fa_nil
  csts := look_all fa_nil
  bis := fa_nil
  gcd := fun h => nomatch h
  exs := look_all fa_nil
  sup := fun h => absurd rfl h
  subs := subs_none rfl
  cls := fa_nil
theorem ok__law_product (X : K.In h) (G : h.Ns mainGlobals mg) (hb : K.In base) (hg : base.Ns mainGlobals mg) (c : Says K) {fd : FuncData} (F : FunD K "_law_product" "_law_product" (defArgs (top 44)) (defBody (top 44)) (defScope (top 44)) [] [] (ga K "_law_product") fd) : FnG PL w K mg base (L2.CX PL w) 3 (ga K "_law_product") fd ["one", "other"] (spD K mg 2 F__law_product) :=
  def_ok F sc__law_product (wd__law_product X G hb hg c) rfl rfl rfl cc__law_product
/-! _law_less -/
theorem pk__law_less (c : Says K) : ∃ fd, FunD K "_law_less" "_law_less" (defArgs (top 45)) (defBody (top 45)) (defScope (top 45)) [] [] (ga K "_law_less") fd := c.d.def_ 36 (d := dd__law_less) rfl
theorem bd__law_less {fd : FuncData} (F : FunD K "_law_less" "_law_less" (defArgs (top 45)) (defBody (top 45)) (defScope (top 45)) [] [] (ga K "_law_less") fd) : Binds K fd ["one", "other"] [] := F.bindsN fun _ _ _ _ _ _ us hl => match us, hl with | [_, _], _ => rfl
theorem wd__law_less (X : K.In h) (G : h.Ns mainGlobals mg) (hb : K.In base) (hg : base.Ns mainGlobals mg) (c : Says K) : Wd PL w K mg base ct__law_less.T g__law_less 3 where
  fns := look_all (fa_cons ⟨3, _, _, _, by decide, ok__law_sum X G hb hg c (pk__law_sum c).choose_spec, glo_ok X G (fac c 45), (pk__law_sum c).choose_spec.kp, bd__law_sum (pk__law_sum c).choose_spec⟩ fa_nil)
  modes := fa_nil
  csts := look_all fa_nil
  bis := fa_nil
  gcd := fun h => nomatch h
  exs := look_all fa_nil
  sup := fun h => absurd rfl h
  subs := subs_none rfl
  cls := fa_nil
theorem ok__law_less (X : K.In h) (G : h.Ns mainGlobals mg) (hb : K.In base) (hg : base.Ns mainGlobals mg) (c : Says K) {fd : FuncData} (F : FunD K "_law_less" "_law_less" (defArgs (top 45)) (defBody (top 45)) (defScope (top 45)) [] [] (ga K "_law_less") fd) : FnG PL w K mg base (L2.CX PL w) 4 (ga K "_law_less") fd ["one", "other"] (spD K mg 2 F__law_less) :=
  def_ok F sc__law_less (wd__law_less X G hb hg c) rfl rfl rfl cc__law_less
/-! _law_drawn -/
theorem pk__law_drawn (c : Says K) : ∃ fd, FunD K "_law_drawn" "_law_drawn" (defArgs (top 46)) (defBody (top 46)) (defScope (top 46)) [] [] (ga K "_law_drawn") fd := c.d.def_ 37 (d := dd__law_drawn) rfl
theorem bd__law_drawn {fd : FuncData} (F : FunD K "_law_drawn" "_law_drawn" (defArgs (top 46)) (defBody (top 46)) (defScope (top 46)) [] [] (ga K "_law_drawn") fd) : Binds K fd ["vase"] [] := F.bindsN fun _ _ _ _ _ _ us hl => match us, hl with | [_], _ => rfl
theorem wd__law_drawn (X : K.In h) (G : h.Ns mainGlobals mg) (hb : K.In base) (hg : base.Ns mainGlobals mg) (c : Says K) : Wd PL w K mg base ct__law_drawn.T g__law_drawn 2 where
  fns := look_all (fa_cons ⟨2, _, _, _, by decide, ok__law_one_of X G hb hg c (pk__law_one_of c).choose_spec, glo_ok X G (fac c 42), (pk__law_one_of c).choose_spec.kp, bd__law_one_of (pk__law_one_of c).choose_spec⟩ (fa_cons ⟨2, _, _, _, by decide, ok__law_low X G hb hg c (pk__law_low c).choose_spec, glo_ok X G (fac c 44), (pk__law_low c).choose_spec.kp, bd__law_low (pk__law_low c).choose_spec⟩ (fa_cons ⟨1, _, _, _, by decide, ok__law_fill X G hb hg c (pk__law_fill c).choose_spec, glo_ok X G (fac c 41), (pk__law_fill c).choose_spec.kp, bd__law_fill (pk__law_fill c).choose_spec⟩ fa_nil)))
  modes := fa_nil
  csts := look_all fa_nil
  bis := fa_nil
  gcd := fun h => nomatch h
  exs := look_all fa_nil
  sup := fun h => absurd rfl h
  subs := subs_none rfl
  cls := fa_nil
theorem ok__law_drawn (X : K.In h) (G : h.Ns mainGlobals mg) (hb : K.In base) (hg : base.Ns mainGlobals mg) (c : Says K) {fd : FuncData} (F : FunD K "_law_drawn" "_law_drawn" (defArgs (top 46)) (defBody (top 46)) (defScope (top 46)) [] [] (ga K "_law_drawn") fd) : FnG PL w K mg base (L2.CX PL w) 3 (ga K "_law_drawn") fd ["vase"] (spD K mg 1 F__law_drawn) :=
  def_ok F sc__law_drawn (wd__law_drawn X G hb hg c) rfl rfl rfl cc__law_drawn
/-! _law_spot -/
theorem pk__law_spot (c : Says K) : ∃ fd, FunD K "_law_spot" "_law_spot" (defArgs (top 47)) (defBody (top 47)) (defScope (top 47)) [] [] (ga K "_law_spot") fd := c.d.def_ 38 (d := dd__law_spot) rfl
theorem bd__law_spot {fd : FuncData} (F : FunD K "_law_spot" "_law_spot" (defArgs (top 47)) (defBody (top 47)) (defScope (top 47)) [] [] (ga K "_law_spot") fd) : Binds K fd ["vase"] [] := F.bindsN fun _ _ _ _ _ _ us hl => match us, hl with | [_], _ => rfl
theorem wd__law_spot (X : K.In h) (G : h.Ns mainGlobals mg) (hb : K.In base) (hg : base.Ns mainGlobals mg) (c : Says K) : Wd PL w K mg base ct__law_spot.T g__law_spot 3 where
  fns := look_all (fa_cons ⟨3, _, _, _, by decide, ok__law_drawn X G hb hg c (pk__law_drawn c).choose_spec, glo_ok X G (fac c 48), (pk__law_drawn c).choose_spec.kp, bd__law_drawn (pk__law_drawn c).choose_spec⟩ fa_nil)
  modes := fa_nil
  csts := look_all fa_nil
  bis := fa_nil
  gcd := fun h => nomatch h
  exs := look_all fa_nil
  sup := fun h => absurd rfl h
  subs := subs_none rfl
  cls := fa_nil
theorem ok__law_spot (X : K.In h) (G : h.Ns mainGlobals mg) (hb : K.In base) (hg : base.Ns mainGlobals mg) (c : Says K) {fd : FuncData} (F : FunD K "_law_spot" "_law_spot" (defArgs (top 47)) (defBody (top 47)) (defScope (top 47)) [] [] (ga K "_law_spot") fd) : FnG PL w K mg base (L2.CX PL w) 4 (ga K "_law_spot") fd ["vase"] (spD K mg 1 F__law_spot) :=
  def_ok F sc__law_spot (wd__law_spot X G hb hg c) rfl rfl rfl cc__law_spot
/-! _law_passed -/
theorem pk__law_passed (c : Says K) : ∃ fd, FunD K "_law_passed" "_law_passed" (defArgs (top 48)) (defBody (top 48)) (defScope (top 48)) [] [] (ga K "_law_passed") fd := c.d.def_ 39 (d := dd__law_passed) rfl
theorem bd__law_passed {fd : FuncData} (F : FunD K "_law_passed" "_law_passed" (defArgs (top 48)) (defBody (top 48)) (defScope (top 48)) [] [] (ga K "_law_passed") fd) : Binds K fd ["vase", "spot"] [] := F.bindsN fun _ _ _ _ _ _ us hl => match us, hl with | [_, _], _ => rfl
theorem wd__law_passed (X : K.In h) (G : h.Ns mainGlobals mg) (hb : K.In base) (hg : base.Ns mainGlobals mg) (c : Says K) : Wd PL w K mg base ct__law_passed.T g__law_passed 1 where
  fns := look_all (fa_cons ⟨1, _, _, _, by decide, ok__law_fill X G hb hg c (pk__law_fill c).choose_spec, glo_ok X G (fac c 41), (pk__law_fill c).choose_spec.kp, bd__law_fill (pk__law_fill c).choose_spec⟩ fa_nil)
  modes := fa_nil
  csts := look_all fa_nil
  bis := (fa_cons (free_ok X G (fac c 4)) fa_nil)
  gcd := fun h => nomatch h
  exs := look_all fa_nil
  sup := fun h => absurd rfl h
  subs := subs_none rfl
  cls := fa_nil
theorem ok__law_passed (X : K.In h) (G : h.Ns mainGlobals mg) (hb : K.In base) (hg : base.Ns mainGlobals mg) (c : Says K) {fd : FuncData} (F : FunD K "_law_passed" "_law_passed" (defArgs (top 48)) (defBody (top 48)) (defScope (top 48)) [] [] (ga K "_law_passed") fd) : FnG PL w K mg base (L2.CX PL w) 2 (ga K "_law_passed") fd ["vase", "spot"] (spD K mg 2 F__law_passed) :=
  def_ok F sc__law_passed (wd__law_passed X G hb hg c) rfl rfl rfl cc__law_passed
/-! _law_done -/
theorem pk__law_done (c : Says K) : ∃ fd, FunD K "_law_done" "_law_done" (defArgs (top 49)) (defBody (top 49)) (defScope (top 49)) [] [] (ga K "_law_done") fd := c.d.def_ 40 (d := dd__law_done) rfl
theorem bd__law_done {fd : FuncData} (F : FunD K "_law_done" "_law_done" (defArgs (top 49)) (defBody (top 49)) (defScope (top 49)) [] [] (ga K "_law_done") fd) : Binds K fd ["way", "one", "other"] [] := F.bindsN fun _ _ _ _ _ _ us hl => match us, hl with | [_, _, _], _ => rfl
theorem wd__law_done (X : K.In h) (G : h.Ns mainGlobals mg) (hb : K.In base) (hg : base.Ns mainGlobals mg) (c : Says K) : Wd PL w K mg base ct__law_done.T g__law_done 6 where
  fns := look_all (fa_cons ⟨6, _, _, _, by decide, ok_dot X G hb hg c (pk_dot c).choose_spec, glo_ok X G (fac c 36), (pk_dot c).choose_spec.kp, bd_dot (pk_dot c).choose_spec⟩ (fa_cons ⟨6, _, _, _, by decide, ok_added X G hb hg c (pk_added c).choose_spec, glo_ok X G (fac c 31), (pk_added c).choose_spec.kp, bd_added (pk_added c).choose_spec⟩ (fa_cons ⟨6, _, _, _, by decide, ok_squared X G hb hg c (pk_squared c).choose_spec, glo_ok X G (fac c 37), (pk_squared c).choose_spec.kp, bd_squared (pk_squared c).choose_spec⟩ (fa_cons ⟨6, _, _, _, by decide, ok_between X G hb hg c (pk_between c).choose_spec, glo_ok X G (fac c 39), (pk_between c).choose_spec.kp, bd_between (pk_between c).choose_spec⟩ (fa_cons ⟨6, _, _, _, by decide, ok_taken X G hb hg c (pk_taken c).choose_spec, glo_ok X G (fac c 32), (pk_taken c).choose_spec.kp, bd_taken (pk_taken c).choose_spec⟩ (fa_cons ⟨6, _, _, _, by decide, ok_cross X G hb hg c (pk_cross c).choose_spec, glo_ok X G (fac c 35), (pk_cross c).choose_spec.kp, bd_cross (pk_cross c).choose_spec⟩ fa_nil))))))
  modes := fa_nil
  csts := look_all fa_nil
  bis := fa_nil
  gcd := fun h => nomatch h
  exs := look_all fa_nil
  sup := fun h => absurd rfl h
  subs := subs_none rfl
  cls := fa_nil
theorem ok__law_done (X : K.In h) (G : h.Ns mainGlobals mg) (hb : K.In base) (hg : base.Ns mainGlobals mg) (c : Says K) {fd : FuncData} (F : FunD K "_law_done" "_law_done" (defArgs (top 49)) (defBody (top 49)) (defScope (top 49)) [] [] (ga K "_law_done") fd) : FnG PL w K mg base (L2.CX PL w) 7 (ga K "_law_done") fd ["way", "one", "other"] (spD K mg 3 F__law_done) :=
  def_ok F sc__law_done (wd__law_done X G hb hg c) rfl rfl rfl cc__law_done
/-! _law_part -/
theorem pk__law_part (c : Says K) : ∃ fd, FunD K "_law_part" "_law_part" (defArgs (top 50)) (defBody (top 50)) (defScope (top 50)) [] [] (ga K "_law_part") fd := c.d.def_ 41 (d := dd__law_part) rfl
theorem bd__law_part {fd : FuncData} (F : FunD K "_law_part" "_law_part" (defArgs (top 50)) (defBody (top 50)) (defScope (top 50)) [] [] (ga K "_law_part") fd) : Binds K fd ["way", "one", "other"] [] := F.bindsN fun _ _ _ _ _ _ us hl => match us, hl with | [_, _, _], _ => rfl
theorem wd__law_part (X : K.In h) (G : h.Ns mainGlobals mg) (hb : K.In base) (hg : base.Ns mainGlobals mg) (c : Says K) : Wd PL w K mg base ct__law_part.T g__law_part 7 where
  fns := look_all (fa_cons ⟨7, _, _, _, by decide, ok__law_done X G hb hg c (pk__law_done c).choose_spec, glo_ok X G (fac c 51), (pk__law_done c).choose_spec.kp, bd__law_done (pk__law_done c).choose_spec⟩ fa_nil)
  modes := fa_nil
  csts := look_all fa_nil
  bis := fa_nil
  gcd := fun h => nomatch h
  exs := look_all fa_nil
  sup := fun h => absurd rfl h
  subs := sbs X G c rfl _ (fa_cons (by decide) fa_nil)
  cls := (fa_cons ⟨_, glo_ok X G (fac c 57)⟩ fa_nil)
theorem ok__law_part (X : K.In h) (G : h.Ns mainGlobals mg) (hb : K.In base) (hg : base.Ns mainGlobals mg) (c : Says K) {fd : FuncData} (F : FunD K "_law_part" "_law_part" (defArgs (top 50)) (defBody (top 50)) (defScope (top 50)) [] [] (ga K "_law_part") fd) : FnG PL w K mg base (L2.CX PL w) 8 (ga K "_law_part") fd ["way", "one", "other"] (spD K mg 3 F__law_part) :=
  def_ok F sc__law_part (wd__law_part X G hb hg c) rfl rfl rfl cc__law_part
/-! _law_other_part -/
theorem pk__law_other_part (c : Says K) : ∃ fd, FunD K "_law_other_part" "_law_other_part" (defArgs (top 51)) (defBody (top 51)) (defScope (top 51)) [] [] (ga K "_law_other_part") fd := c.d.def_ 42 (d := dd__law_other_part) rfl
theorem bd__law_other_part {fd : FuncData} (F : FunD K "_law_other_part" "_law_other_part" (defArgs (top 51)) (defBody (top 51)) (defScope (top 51)) [] [] (ga K "_law_other_part") fd) : Binds K fd ["way", "one", "other"] [] := F.bindsN fun _ _ _ _ _ _ us hl => match us, hl with | [_, _, _], _ => rfl
theorem wd__law_other_part (X : K.In h) (G : h.Ns mainGlobals mg) (hb : K.In base) (hg : base.Ns mainGlobals mg) (c : Says K) : Wd PL w K mg base ct__law_other_part.T g__law_other_part 6 where
  fns := look_all (fa_cons ⟨6, _, _, _, by decide, ok_quarter X G hb hg c (pk_quarter c).choose_spec, glo_ok X G (fac c 34), (pk_quarter c).choose_spec.kp, bd_quarter (pk_quarter c).choose_spec⟩ (fa_cons ⟨6, _, _, _, by decide, ok_scaled X G hb hg c (pk_scaled c).choose_spec, glo_ok X G (fac c 33), (pk_scaled c).choose_spec.kp, bd_scaled (pk_scaled c).choose_spec⟩ (fa_cons ⟨5, _, _, _, by decide, ok_point X G hb hg c (pk_point c).choose_spec, glo_ok X G (fac c 30), (pk_point c).choose_spec.kp, bd_point (pk_point c).choose_spec⟩ (fa_cons ⟨6, _, _, _, by decide, ok_between X G hb hg c (pk_between c).choose_spec, glo_ok X G (fac c 39), (pk_between c).choose_spec.kp, bd_between (pk_between c).choose_spec⟩ fa_nil))))
  modes := fa_nil
  csts := look_all fa_nil
  bis := fa_nil
  gcd := fun h => nomatch h
  exs := look_all fa_nil
  sup := fun h => absurd rfl h
  subs := sbs X G c rfl _ (fa_cons (by decide) fa_nil)
  cls := (fa_cons ⟨_, glo_ok X G (fac c 57)⟩ (fa_cons ⟨_, glo_ok X G (fac c 56)⟩ fa_nil))
theorem ok__law_other_part (X : K.In h) (G : h.Ns mainGlobals mg) (hb : K.In base) (hg : base.Ns mainGlobals mg) (c : Says K) {fd : FuncData} (F : FunD K "_law_other_part" "_law_other_part" (defArgs (top 51)) (defBody (top 51)) (defScope (top 51)) [] [] (ga K "_law_other_part") fd) : FnG PL w K mg base (L2.CX PL w) 7 (ga K "_law_other_part") fd ["way", "one", "other"] (spD K mg 3 F__law_other_part) :=
  def_ok F sc__law_other_part (wd__law_other_part X G hb hg c) rfl rfl rfl cc__law_other_part
/-! _law_sums_right -/
theorem pk__law_sums_right (c : Says K) : ∃ fd, FunD K "_law_sums_right" "_law_sums_right" (defArgs (top 52)) (defBody (top 52)) (defScope (top 52)) [] [] (ga K "_law_sums_right") fd := c.d.def_ 43 (d := dd__law_sums_right) rfl
theorem bd__law_sums_right {fd : FuncData} (F : FunD K "_law_sums_right" "_law_sums_right" (defArgs (top 52)) (defBody (top 52)) (defScope (top 52)) [] [] (ga K "_law_sums_right") fd) : Binds K fd ["vase"] [] := F.bindsN fun _ _ _ _ _ _ us hl => match us, hl with | [_], _ => rfl
theorem wd__law_sums_right (X : K.In h) (G : h.Ns mainGlobals mg) (hb : K.In base) (hg : base.Ns mainGlobals mg) (c : Says K) : Wd PL w K mg base ct__law_sums_right.T g__law_sums_right 6 where
  fns := look_all (fa_cons ⟨4, _, _, _, by decide, ok__law_spot X G hb hg c (pk__law_spot c).choose_spec, glo_ok X G (fac c 49), (pk__law_spot c).choose_spec.kp, bd__law_spot (pk__law_spot c).choose_spec⟩ (fa_cons ⟨3, _, _, _, by decide, ok__law_drawn X G hb hg c (pk__law_drawn c).choose_spec, glo_ok X G (fac c 48), (pk__law_drawn c).choose_spec.kp, bd__law_drawn (pk__law_drawn c).choose_spec⟩ (fa_cons ⟨1, _, _, _, by decide, ok__law_fill X G hb hg c (pk__law_fill c).choose_spec, glo_ok X G (fac c 41), (pk__law_fill c).choose_spec.kp, bd__law_fill (pk__law_fill c).choose_spec⟩ (fa_cons ⟨2, _, _, _, by decide, ok__law_passed X G hb hg c (pk__law_passed c).choose_spec, glo_ok X G (fac c 50), (pk__law_passed c).choose_spec.kp, bd__law_passed (pk__law_passed c).choose_spec⟩ (fa_cons ⟨4, _, _, _, by decide, ok__law_less X G hb hg c (pk__law_less c).choose_spec, glo_ok X G (fac c 47), (pk__law_less c).choose_spec.kp, bd__law_less (pk__law_less c).choose_spec⟩ (fa_cons ⟨3, _, _, _, by decide, ok__law_sum X G hb hg c (pk__law_sum c).choose_spec, glo_ok X G (fac c 45), (pk__law_sum c).choose_spec.kp, bd__law_sum (pk__law_sum c).choose_spec⟩ (fa_cons ⟨3, _, _, _, by decide, ok__law_product X G hb hg c (pk__law_product c).choose_spec, glo_ok X G (fac c 46), (pk__law_product c).choose_spec.kp, bd__law_product (pk__law_product c).choose_spec⟩ (fa_cons ⟨4, _, _, _, by decide, ok_is_point X G hb hg c (pk_is_point c).choose_spec, glo_ok X G (fac c 14), (pk_is_point c).choose_spec.kp, bd_is_point (pk_is_point c).choose_spec⟩ fa_nil))))))))
  modes := (fa_cons (by obtain ⟨its, h1, h2⟩ := md0_added (pk_added c).choose_spec; exact ⟨6, _, _, _, its, _, by decide, ok_added X G hb hg c (pk_added c).choose_spec, glo_ok X G (fac c 31), (pk_added c).choose_spec.kp, h1, fun _ _ => .nil, rfl, h2⟩) (fa_cons (by obtain ⟨its, h1, h2⟩ := md1_taken (pk_taken c).choose_spec; exact ⟨6, _, _, _, its, _, by decide, ok_taken X G hb hg c (pk_taken c).choose_spec, glo_ok X G (fac c 32), (pk_taken c).choose_spec.kp, h1, fun _ _ => .nil, rfl, h2⟩) (fa_cons (by obtain ⟨its, h1, h2⟩ := md2_point (pk_point c).choose_spec; exact ⟨5, _, _, _, its, _, by decide, ok_point X G hb hg c (pk_point c).choose_spec, glo_ok X G (fac c 30), (pk_point c).choose_spec.kp, h1, fun _ _ => .nil, rfl, h2⟩) (fa_cons (by obtain ⟨its, h1, h2⟩ := md3_scaled (pk_scaled c).choose_spec; exact ⟨6, _, _, _, its, _, by decide, ok_scaled X G hb hg c (pk_scaled c).choose_spec, glo_ok X G (fac c 33), (pk_scaled c).choose_spec.kp, h1, fun _ _ => .nil, rfl, h2⟩) (fa_cons (by obtain ⟨its, h1, h2⟩ := md4_is_point (pk_is_point c).choose_spec; exact ⟨4, _, _, _, its, _, by decide, ok_is_point X G hb hg c (pk_is_point c).choose_spec, glo_ok X G (fac c 14), (pk_is_point c).choose_spec.kp, h1, fun _ _ => .nil, rfl, h2⟩) (fa_cons (by obtain ⟨its, h1, h2⟩ := md5_cross (pk_cross c).choose_spec; exact ⟨6, _, _, _, its, _, by decide, ok_cross X G hb hg c (pk_cross c).choose_spec, glo_ok X G (fac c 35), (pk_cross c).choose_spec.kp, h1, fun _ _ => .nil, rfl, h2⟩) (fa_cons (by obtain ⟨its, h1, h2⟩ := md6_dot (pk_dot c).choose_spec; exact ⟨6, _, _, _, its, _, by decide, ok_dot X G hb hg c (pk_dot c).choose_spec, glo_ok X G (fac c 36), (pk_dot c).choose_spec.kp, h1, fun _ _ => .nil, rfl, h2⟩) (fa_cons (by obtain ⟨its, h1, h2⟩ := md7_squared (pk_squared c).choose_spec; exact ⟨6, _, _, _, its, _, by decide, ok_squared X G hb hg c (pk_squared c).choose_spec, glo_ok X G (fac c 37), (pk_squared c).choose_spec.kp, h1, fun _ _ => .nil, rfl, h2⟩) (fa_cons (by obtain ⟨its, h1, h2⟩ := md8_quarter (pk_quarter c).choose_spec; exact ⟨6, _, _, _, its, _, by decide, ok_quarter X G hb hg c (pk_quarter c).choose_spec, glo_ok X G (fac c 34), (pk_quarter c).choose_spec.kp, h1, fun _ _ => .nil, rfl, h2⟩) (fa_cons (by obtain ⟨its, h1, h2⟩ := md9_between (pk_between c).choose_spec; exact ⟨6, _, _, _, its, _, by decide, ok_between X G hb hg c (pk_between c).choose_spec, glo_ok X G (fac c 39), (pk_between c).choose_spec.kp, h1, fun _ _ => .nil, rfl, h2⟩) fa_nil))))))))))
  csts := look_all fa_nil
  bis := (fa_cons (free_ok X G (fac c 9)) (fa_cons (free_ok X G (fac c 4)) fa_nil))
  gcd := fun h => nomatch h
  exs := look_all fa_nil
  sup := fun h => absurd rfl h
  subs := subs_none rfl
  cls := fa_nil
theorem ok__law_sums_right (X : K.In h) (G : h.Ns mainGlobals mg) (hb : K.In base) (hg : base.Ns mainGlobals mg) (c : Says K) {fd : FuncData} (F : FunD K "_law_sums_right" "_law_sums_right" (defArgs (top 52)) (defBody (top 52)) (defScope (top 52)) [] [] (ga K "_law_sums_right") fd) : FnG PL w K mg base (L2.CX PL w) 7 (ga K "_law_sums_right") fd ["vase"] (spD K mg 1 F__law_sums_right) :=
  def_ok F sc__law_sums_right (wd__law_sums_right X G hb hg c) rfl rfl rfl cc__law_sums_right
/-! law -/
theorem pk_law (c : Says K) : ∃ fd, FunD K "law" "law" (defArgs (top 53)) (defBody (top 53)) (defScope (top 53)) [] [] (ga K "law") fd := c.d.def_ 44 (d := dd_law) rfl
theorem wd_law (X : K.In h) (G : h.Ns mainGlobals mg) (hb : K.In base) (hg : base.Ns mainGlobals mg) (c : Says K) : Wd PL w K mg base ct_lawL.T g_law 8 where
  fns := look_all (fa_cons ⟨2, _, _, _, by decide, ok__law_one_of X G hb hg c (pk__law_one_of c).choose_spec, glo_ok X G (fac c 42), (pk__law_one_of c).choose_spec.kp, bd__law_one_of (pk__law_one_of c).choose_spec⟩ (fa_cons ⟨2, _, _, _, by decide, ok__law_passed X G hb hg c (pk__law_passed c).choose_spec, glo_ok X G (fac c 50), (pk__law_passed c).choose_spec.kp, bd__law_passed (pk__law_passed c).choose_spec⟩ (fa_cons ⟨3, _, _, _, by decide, ok__law_drawn X G hb hg c (pk__law_drawn c).choose_spec, glo_ok X G (fac c 48), (pk__law_drawn c).choose_spec.kp, bd__law_drawn (pk__law_drawn c).choose_spec⟩ (fa_cons ⟨4, _, _, _, by decide, ok_is_point X G hb hg c (pk_is_point c).choose_spec, glo_ok X G (fac c 14), (pk_is_point c).choose_spec.kp, bd_is_point (pk_is_point c).choose_spec⟩ (fa_cons ⟨7, _, _, _, by decide, ok__law_other_part X G hb hg c (pk__law_other_part c).choose_spec, glo_ok X G (fac c 53), (pk__law_other_part c).choose_spec.kp, bd__law_other_part (pk__law_other_part c).choose_spec⟩ (fa_cons ⟨1, _, _, _, by decide, ok__law_fill X G hb hg c (pk__law_fill c).choose_spec, glo_ok X G (fac c 41), (pk__law_fill c).choose_spec.kp, bd__law_fill (pk__law_fill c).choose_spec⟩ (fa_cons ⟨7, _, _, _, by decide, ok__law_sums_right X G hb hg c (pk__law_sums_right c).choose_spec, glo_ok X G (fac c 54), (pk__law_sums_right c).choose_spec.kp, bd__law_sums_right (pk__law_sums_right c).choose_spec⟩ (fa_cons ⟨4, _, _, _, by decide, ok__law_spot X G hb hg c (pk__law_spot c).choose_spec, glo_ok X G (fac c 49), (pk__law_spot c).choose_spec.kp, bd__law_spot (pk__law_spot c).choose_spec⟩ (fa_cons ⟨5, _, _, _, by decide, ok_are_points X G hb hg c (pk_are_points c).choose_spec, glo_ok X G (fac c 15), (pk_are_points c).choose_spec.kp, bd_are_points (pk_are_points c).choose_spec⟩ (fa_cons ⟨8, _, _, _, by decide, ok__law_part X G hb hg c (pk__law_part c).choose_spec, glo_ok X G (fac c 52), (pk__law_part c).choose_spec.kp, bd__law_part (pk__law_part c).choose_spec⟩ fa_nil))))))))))
  modes := (fa_cons (by obtain ⟨its, h1, h2⟩ := md10_are_points (pk_are_points c).choose_spec; exact ⟨5, _, _, _, its, _, by decide, ok_are_points X G hb hg c (pk_are_points c).choose_spec, glo_ok X G (fac c 15), (pk_are_points c).choose_spec.kp, h1, fun _ _ => .nil, rfl, h2⟩) fa_nil)
  csts := look_all fa_nil
  bis := (fa_cons (free_ok X G (fac c 8)) (fa_cons (free_ok X G (fac c 5)) (fa_cons (free_ok X G (fac c 3)) fa_nil)))
  gcd := fun h => nomatch h
  exs := look_all fa_nil
  sup := fun h => absurd rfl h
  subs := subs_none rfl
  cls := fa_nil
end
theorem ok_law {w : World} {K : Frag} {h : Heap} {mg : MG} {base : Heap} (X : K.In h) (G : h.Ns mainGlobals mg) (hb : K.In base) (hg : base.Ns mainGlobals mg) (c : Says K) {fd : FuncData} (F : FunD K "law" "law" (defArgs (top 53)) (defBody (top 53)) (defScope (top 53)) [] [] (ga K "law") fd) : FnG PL w K mg base CX0 9 (ga K "law") fd ["script"] (spLaw K) :=
  law_ok (c := ct_lawL) F sc_law (wd_law X G hb hg c) rfl rfl rfl (ok__law_vase X G hb hg c (pk__law_vase c).choose_spec) (by decide) (glo_ok X G (fac c 40)) (pk__law_vase c).choose_spec.kp (bd__law_vase (pk__law_vase c).choose_spec) rfl (by decide +kernel) (i := 1) (by decide +kernel) (by decide +kernel) (by decide +kernel) cc_law plain
end LK
namespace LK
open PySem PySem.W PyProof.Rows PySem.Spec L2 DE He
abbrev RL : OpenRow := OpenLaw.row PySem.Challenge.rw_oddsquares_k02_points_and_vectors
abbrev hkL : Hook := hookE 4 faL fnL esL fileL exL
def obL (s : SharedT) : AlE := obsEG 4 faL fnL esL fileL exL (HandSHeadRun.getT s)
theorem obL_eq (s : SharedT) : obL s = hkL.obs s.abs := obsEG_eq (HandSHeadRun.getT_eq s)
def loose0 : List Str := ["is_integer", "is_within", "is_number", "is_point", "are_points", "OddError", "BadNumber", "BadPoint", "lowest", "as_number", "sum_of", "rest_of", "product_of", "checked", "as_point", "sum_points", "rest_points", "times_point", "turned_point", "cross_of", "dot_of", "checked_point", "point", "added", "taken", "scaled", "quarter", "cross", "dot", "squared"]
def loose1 : List Str := ["between", "share_between", "_law_vase", "_law_fill", "_law_one_of", "_law_shared", "_law_low", "_law_sum", "_law_product", "_law_less", "_law_drawn", "_law_spot", "_law_passed", "_law_done", "_law_part", "_law_other_part", "_law_sums_right"]
def looseL : List Str := loose0 ++ loose1
theorem runL_ (w : World) : HandSHeadRun.RunEqI RL (view RL.prog [0, 53]) hkL obL 20000 looseL w := by
  unfold HandSHeadRun.RunEqI
  kernel_rfl
theorem facts {w : World} {K : Frag} {h : Heap} {mg : MG} {f : Addr} (X : K.In h) (G : h.Ns mainGlobals mg) (hfa : mg ("law" : Str) = some (.ref f)) (c : Says K) :
    ∃ fd : FuncData, (∀ (s : Shared) (v : Value), BindsTo s fd ⟨[v], []⟩ [("script", v)]) ∧ ∀ base : Heap, K.In base → base.Ns mainGlobals mg → FnG PL w K mg base CX0 9 f fd ["script"] (spLaw K) := by
  obtain ⟨fd, F⟩ := pk_law c
  have e := hfa.symm.trans (glo_ok X G (fac c 55))
  cases e
  have b := FunD.bindsA (ps := ["script"]) F fun _ _ _ _ _ _ us hl => match us, hl with | [_], _ => rfl
  exact ⟨fd, fun s v => b s [v] rfl, fun base hb hg => ok_law X G hb hg c F⟩
end LK
open PySem PySem.W PySem.Calls PyProof.Rows
theorem PySem.Challenge.cw_oddsquares_k02_points_and_vectors_holds : PySem.Challenge.rw_oddsquares_k02_points_and_vectors.Holds := by
  w_on; o_law
  refine HandSHeadRun.head_imp (r := OpenLaw.row PySem.Challenge.rw_oddsquares_k02_points_and_vectors) (q := view (OpenLaw.row PySem.Challenge.rw_oddsquares_k02_points_and_vectors).prog [0, 53]) (H := LK.hkL) (ob := LK.obL) (M := 20000) (loose := LK.looseL) (d := HandSHeadRun.topDef (OpenLaw.row PySem.Challenge.rw_oddsquares_k02_points_and_vectors).prog 53) (kwd := []) LK.obL_eq
     LK.runL_ (by kernel_rfl) (by kernel_rfl) (by kernel_rfl) (by rfl) (by first | assumption | decide +kernel) (by decide +kernel) ⟨rfl, rfl, rfl, rfl, rfl, by decide +kernel⟩ ?hw ?hc
  case hw => w_witness2
  case hc =>
    refine DE.walk_ofG (l := PySem.Challenge.rw_oddsquares_k02_points_and_vectors) (n := 63) (k := 9) (x := "script") (CX := L2.CX0) rfl (by decide) (by kernel_rfl) ⟨rfl, by decide, by decide⟩ ?F (fun _ _ _ _ z => z)
    intro w mg fa h Y G hmg0
    obtain ⟨K, KX, c⟩ := Y
    have hmg : mg ("law" : PySem.Str) = some (.ref fa) := by
      have e : (HandSHeadRun.topDef (OpenLaw.row PySem.Challenge.rw_oddsquares_k02_points_and_vectors).prog 53).name = ("law" : PySem.Str) := by kernel_rfl
      rw [← e]
      exact hmg0
    obtain ⟨fd, hb, hF⟩ := LK.facts (w := w) KX G hmg c
    exact ⟨K, fd, DE.spLaw K, KX, hb, fun H a ns hl hO hS => DE.law_sp hl hS, hF⟩
