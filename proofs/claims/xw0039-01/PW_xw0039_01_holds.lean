import PyProof.Rows.All
import Wide.All
import OpenK.AllK
import Wide.FinOn
import PySem.Challenge.RW_xw0039_01
set_option Elab.async false
section
open PySem PySem.W
set_option maxRecDepth 100000
set_option linter.unusedVariables false
namespace Mine

noncomputable def nEq : List Nat → List Nat → Bool
  | [], [] => true
  | [], _ :: _ => false
  | _ :: _, [] => false
  | a :: as, b :: bs => match Nat.beq a b with
    | true => nEq as bs
    | false => false
noncomputable def sEq (a b : Str) : Bool := nEq a.cps.toList b.cps.toList

inductive BI where
  | len | abs | max | min | range | list | tuple | dict | sorted | str

inductive AV where
  | none
  | bool (b : Bool)
  | int (i : Int)
  | str (s : Str)
  | tup (xs : List AV)
  | ref (i : Nat)
  | fn (a : Addr)
  | bi (b : BI)
  | gd (a : Addr)
  | rng (n : Nat)
  | items (i : Nat)
  | res (m r : Nat)
  | resn (m r : Nat)
  | unk
  | scr (xs : List AV)

inductive Body where
  | list (xs : List AV)
  | dict (es : List (AV × AV))
  | hid
structure Cell where
  body : Body
  ver : Nat
structure Sto where
  n : Nat
  cs : List Cell
abbrev Rho := List (Str × AV)

noncomputable def nth {α : Type} : List α → Nat → Option α
  | [], _ => none
  | x :: xs, n => match n with
    | 0 => some x
    | n + 1 => nth xs n
noncomputable def setNth {α : Type} : List α → Nat → α → List α
  | [], _, _ => []
  | x :: xs, n, y => match n with
    | 0 => y :: xs
    | n + 1 => x :: setNth xs n y
namespace Sto
noncomputable def get (σ : Sto) (i : Nat) : Option Cell := match Nat.blt i σ.n with
  | true => nth σ.cs (σ.n - 1 - i)
  | false => none
noncomputable def put (σ : Sto) (i : Nat) (b : Body) : Sto := ⟨σ.n, match nth σ.cs (σ.n - 1 - i) with
  | some c => setNth σ.cs (σ.n - 1 - i) ⟨b, c.ver + 1⟩
  | none => σ.cs⟩
noncomputable def new (σ : Sto) (b : Body) : Sto := ⟨σ.n + 1, ⟨b, 0⟩ :: σ.cs⟩
noncomputable def list (σ : Sto) (i : Nat) : Option (List AV) := match σ.get i with
  | some ⟨.list xs, _⟩ => some xs
  | _ => none
noncomputable def dict (σ : Sto) (i : Nat) : Option (List (AV × AV)) := match σ.get i with
  | some ⟨.dict es, _⟩ => some es
  | _ => none
end Sto

noncomputable def lk : Rho → Str → Option AV
  | [], _ => none
  | p :: r, x => match sEq p.1 x with
    | true => some p.2
    | false => lk r x
noncomputable def setR : Rho → Str → AV → Rho
  | [], x, v => [(x, v)]
  | p :: r, x, v => match sEq p.1 x with
    | true => (x, v) :: r
    | false => p :: setR r x v
noncomputable def kindIn : List (Str × NameKind) → Str → Option NameKind
  | [], _ => none
  | p :: r, x => match sEq p.1 x with
    | true => some p.2
    | false => kindIn r x

-- equality of data
noncomputable def zipAll (f : AV → AV → Option Bool) : List AV → List AV → Option Bool
  | [], l => match l with
    | [] => some true
    | _ :: _ => some false
  | x :: xs, l => match l with
    | [] => some false
    | y :: ys => match f x y with
      | some b => match zipAll f xs ys with
        | some c => some (match b with | true => c | false => false)
        | Option.none => Option.none
      | Option.none => Option.none
noncomputable def dEq : Nat → AV → AV → Option Bool
  | n, .int a, v => match v with
    | .int b => some (Z.eqB a b)
    | .str _ => some false
    | .tup _ => some false
    | _ => Option.none
  | n, .str a, v => match v with
    | .str b => some (sEq a b)
    | .int _ => some false
    | .tup _ => some false
    | _ => Option.none
  | n, .tup a, v => match v with
    | .tup b => match n with
      | 0 => Option.none
      | n + 1 => zipAll (dEq n) a b
    | .int _ => some false
    | .str _ => some false
    | _ => Option.none
  | n, .bool a, v => match v with
    | .bool b => some (match a, b with | true, true => true | false, false => true | _, _ => false)
    | _ => Option.none
  | _, _, _ => Option.none
noncomputable def allB (f : AV → Bool) : List AV → Bool
  | [] => true
  | x :: xs => match f x with
    | true => allB f xs
    | false => false
noncomputable def isDat : Nat → AV → Bool
  | n, .int _ => true
  | n, .str _ => true
  | n, .tup xs => match n with
    | 0 => false
    | n + 1 => allB (isDat n) xs
  | _, _ => false
noncomputable def dFind : List (AV × AV) → AV → Option (Option AV)
  | [], _ => some Option.none
  | e :: es, k => match dEq 10 e.1 k with
    | some b => match b with
      | true => some (some e.2)
      | false => dFind es k
    | Option.none => Option.none
noncomputable def dPut : List (AV × AV) → AV → AV → Option (List (AV × AV))
  | [], k, v => some [(k, v)]
  | e :: es, k, v => match dEq 10 e.1 k with
    | some b => match b with
      | true => some ((e.1, v) :: es)
      | false => (dPut es k v).bind fun r => some (e :: r)
    | Option.none => Option.none
noncomputable def dDel : List (AV × AV) → AV → Option (List (AV × AV))
  | [], _ => some []
  | e :: es, k => match dEq 10 e.1 k with
    | some b => match b with
      | true => some es
      | false => (dDel es k).bind fun r => some (e :: r)
    | Option.none => Option.none
noncomputable def keyOk : AV → Bool
  | .str _ => true
  | .tup xs => isDat 8 (.tup xs)
  | _ => false
noncomputable def sameKeys (k : AV) : List (AV × AV) → Bool
  | [] => true
  | e :: es => match k, e.1 with
    | .str _, .str _ => sameKeys k es
    | .tup _, .tup _ => sameKeys k es
    | _, _ => false
noncomputable def anyD (k : AV) : List AV → Bool
  | [] => false
  | x :: xs => match dEq 10 x k with
    | some b => match b with
      | true => true
      | false => anyD k xs
    | Option.none => anyD k xs
noncomputable def memD (xs : List AV) (k : AV) : Option Bool := match isDat 8 k with
  | true => match allB (isDat 8) xs with
    | true => some (anyD k xs)
    | false => none
  | false => none
noncomputable def keyFits (k : AV) (es : List (AV × AV)) : Bool := match keyOk k with
  | true => sameKeys k es
  | false => false

-- the written part
noncomputable def lkA : Frag → Addr → Option Obj
  | [], _ => none
  | p :: r, a => match Nat.beq p.1 a with
    | true => some p.2
    | false => lkA r a
noncomputable def lkE : List DictEntry → Str → Option Value
  | [], _ => none
  | e :: es, x => match e.key with
    | .str s _ => (match sEq s x with
      | true => some e.val
      | false => lkE es x)
    | _ => lkE es x
noncomputable def glob (K : Frag) (x : Str) : Option Value := match lkA K mainGlobals with
  | some o => match o.data with
    | .dict es _ => lkE es.toList x
    | _ => none
  | none => none
mutual
noncomputable def absV (K : Frag) : Nat → Value → Option AV
  | 0, _ => none
  | n + 1, v => match v with
    | .int i _ => some (.int i)
    | .str s _ => some (.str s)
    | .ref a => match lkA K a with
      | some o => match o.data with
        | .func _ => some (.fn a)
        | .seq vs _ => (absVs K n vs.toList).bind fun xs => some (.tup xs)
        | .dict _ _ => some (.gd a)
        | _ => none
      | none => none
    | _ => none
noncomputable def absVs (K : Frag) : Nat → List Value → Option (List AV)
  | 0, _ => none
  | n + 1, l => match l with
    | [] => some []
    | v :: vs => (absV K n v).bind fun x => (absVs K n vs).bind fun xs => some (x :: xs)
end
noncomputable def rkA : Nat := 189
noncomputable def gdGet (K : Frag) (a : Addr) (x : Str) : Option AV := match Nat.beq a rkA with
  | true => (match lkA K rkA with
    | some o => match o.data with
      | .dict es _ => (lkE es.toList x).bind fun v => match v with
        | .int i _ => some (.int i)
        | _ => none
      | _ => none
    | none => none)
  | false => none

structure Fn where
  ps : List Str
  body : List Stmt
  sc : List (Str × NameKind)
noncomputable def fnAt (K : Frag) (a : Addr) : Option Fn := match lkA K a with
  | some o => match o.data with
    | .func fd => match Nat.beq fd.globals mainGlobals with
      | true => (match fd.body with
        | .stmts b => some ⟨fd.params.args.map (·.arg), b, fd.scope.names⟩
        | _ => none)
      | false => none
    | _ => none
  | none => none

noncomputable def biName : BI → Str
  | .len => ⟨#[108, 101, 110]⟩
  | .abs => ⟨#[97, 98, 115]⟩
  | .max => ⟨#[109, 97, 120]⟩
  | .min => ⟨#[109, 105, 110]⟩
  | .range => ⟨#[114, 97, 110, 103, 101]⟩
  | .list => ⟨#[108, 105, 115, 116]⟩
  | .tuple => ⟨#[116, 117, 112, 108, 101]⟩
  | .dict => ⟨#[100, 105, 99, 116]⟩
  | .sorted => ⟨#[115, 111, 114, 116, 101, 100]⟩
  | .str => ⟨#[115, 116, 114]⟩
noncomputable def biFind (x : Str) : List BI → Option BI
  | [] => none
  | b :: bs => match sEq (biName b) x with
    | true => some b
    | false => biFind x bs
noncomputable def biOf (x : Str) : Option BI := biFind x [.len, .tuple, .list, .abs, .range, .min, .max, .dict, .sorted, .str]

structure Cx where
  d : Nat
  sc : List (Str × NameKind)
inductive Fl where
  | next
  | ret (v : AV)
-- an iterator: what is watched (a cell and its version), what is left
structure It where
  kind : AV
  ver : Nat
  rest : List AV

structure Rec where
  ev : Cx → Rho → Sto → Expr → Option (AV × Sto)
  tr : Cx → Rho → Sto → Expr → Option (Bool × Sto)
  ex : Cx → Rho → Sto → List Stmt → Option (Fl × Rho × Sto)
  wh : Cx → Rho → Sto → Expr → List Stmt → Option (Fl × Rho × Sto)
  fo : Cx → Rho → Sto → Expr → It → List Stmt → Option (Fl × Rho × Sto)
  co : Cx → Rho → Sto → Expr → List Comprehension → Nat → It → Nat → Option (Rho × Sto)

noncomputable def small {α : Type} (n : Nat) : List α → Bool
  | [] => true
  | _ :: xs => match n with
    | 0 => false
    | n + 1 => small n xs

section
variable (K : Frag)

noncomputable def under (x : Str) : Bool := match x.cps.toList with
  | a :: b :: _ => match Nat.beq a 95 with
    | true => Nat.beq b 95
    | false => false
  | _ => false
noncomputable def evName (c : Cx) (ρ : Rho) (x : Str) : Option AV := match under x with
  | true => none
  | false => match lk ρ x with
  | some v => some v
  | none => match kindIn c.sc x with
    | some .globalImplicit => match glob K x with
      | some v => absV K 12 v
      | none => (biOf x).bind fun b => some (.bi b)
    | _ => none

noncomputable def evConst : Const → Option AV
  | .none => some .none
  | .bool b => some (.bool b)
  | .int i => some (.int i)
  | .str s => some (.str s)
  | _ => none

variable (R : Rec)

noncomputable def evAll (c : Cx) (ρ : Rho) : Sto → List Expr → Option (List AV × Sto)
  | σ, [] => some ([], σ)
  | σ, e :: es => match e with
    | .Starred _ _ => none
    | _ => (R.ev c ρ σ e).bind fun p => (evAll c ρ p.2 es).bind fun q => some (p.1 :: q.1, q.2)

noncomputable def binOp (σ : Sto) : Operator → AV → AV → Option (AV × Sto)
  | .Add, a, b => match a with
    | .int a => match b with
      | .int b => some (.int (a + b), σ)
      | _ => none
    | .str a => match b with
      | .str b => match small 1000 a.cps.toList with
        | true => match small 1000 b.cps.toList with
          | true => some (.str (a ++ b), σ)
          | false => none
        | false => none
      | _ => none
    | .tup a => match b with
      | .tup b => match small 1000 a with
        | true => match small 1000 b with
          | true => some (.tup (a ++ b), σ)
          | false => none
        | false => none
      | _ => none
    | .ref i => match b with
      | .ref j => (σ.list i).bind fun xs => (σ.list j).bind fun ys => match small 1000 xs with
        | true => match small 1000 ys with
          | true => some (.ref σ.n, σ.new (.list (xs ++ ys)))
          | false => none
        | false => none
      | _ => none
    | _ => none
  | .Sub, a, b => match a with
    | .int a => match b with
      | .int b => some (.int (a - b), σ)
      | _ => none
    | _ => none
  | .Mult, a, b => match a with
    | .int a => match b with
      | .int b => match Nat.blt a.natAbs 1152921504606846976 with
        | true => some (.int (a * b), σ)
        | false => none
      | _ => none
    | _ => none
  | .FloorDiv, a, b => match a with
    | .int a => match b with
      | .int b => match Z.eqB b 0 with
        | true => none
        | false => match Nat.blt b.natAbs 1073741824 with
          | true => some (.int (a.fdiv b), σ)
          | false => none
      | _ => none
    | _ => none
  | .Mod, a, b => match a with
    | .int a => match b with
      | .int b => match Z.eqB b 0 with
        | true => none
        | false => some (.int (a.fmod b), σ)
      | _ => none
    | .resn m r => match b with
      | .int b => match b with
        | .ofNat k => match Nat.beq k 0 with
          | true => none
          | false => match Nat.beq (m % k) 0 with
            | true => some (.int (.ofNat (r % k)), σ)
            | false => none
        | _ => none
      | _ => none
    | _ => none
  | .Pow, a, b => match a with
    | .int a => match b with
      | .int b => match a with
        | .ofNat a => match b with
          | .ofNat b => match Nat.ble b 5000 with
            | true => match Nat.blt a 1152921504606846976 with
              | true => some (.int (.ofNat (a ^ b)), σ)
              | false => none
            | false => none
          | _ => none
        | _ => none
      | _ => none
    | _ => none
  | _, _, _ => none

noncomputable def cmpEq (σ : Sto) (a b : AV) : Option Bool := match a with
  | .ref i => match b with
    | .ref j => (σ.list i).bind fun xs => (σ.list j).bind fun ys => zipAll (dEq 10) xs ys
    | _ => none
  | _ => dEq 10 a b
noncomputable def memIn (σ : Sto) (k c : AV) : Option Bool := match c with
  | .tup xs => memD xs k
  | .ref i => (σ.list i).bind fun xs => memD xs k
  | _ => none
noncomputable def cmpIn (σ : Sto) (k c : AV) : Option Bool := match c with
  | .tup xs => memD xs k
  | .ref i => match σ.get i with
    | some c => match c.body with
      | .list xs => memD xs k
      | .dict es => match keyFits k es with
        | true => (dFind es k).bind fun o => some o.isSome
        | false => none
      | .hid => none
    | none => none
  | _ => none
noncomputable def cmpInt (f : Int → Int → Bool) (a b : AV) : Option Bool := match a with
  | .int a => match b with
    | .int b => some (f a b)
    | _ => none
  | _ => none
noncomputable def cmpOp (σ : Sto) (op : CmpOp) (a b : AV) : Option Bool := match op with
  | .Eq => cmpEq σ a b
  | .NotEq => (cmpEq σ a b).bind fun r => some (!r)
  | .Lt => cmpInt Z.ltB a b
  | .LtE => cmpInt Z.leB a b
  | .Gt => cmpInt (fun a b => Z.ltB b a) a b
  | .GtE => cmpInt (fun a b => Z.leB b a) a b
  | .In => cmpIn σ a b
  | .NotIn => (memIn σ a b).bind fun r => some (!r)
  | _ => none

noncomputable def truthOf : AV → Option Bool
  | .bool b => some b
  | _ => none

noncomputable def boolVals (c : Cx) (ρ : Rho) (op : BoolOp) : Sto → List Expr → Option (AV × Sto)
  | _, [] => none
  | σ, x :: xs => match xs with
    | [] => R.ev c ρ σ x
    | _ :: _ => (R.ev c ρ σ x).bind fun p => (truthOf p.1).bind fun t => match op, t with
      | .And, false => some p
      | .Or, true => some p
      | _, _ => boolVals c ρ op p.2 xs
noncomputable def trAll (c : Cx) (ρ : Rho) (op : BoolOp) : Sto → List Expr → Option (Bool × Sto)
  | σ, [] => match op with
    | .And => some (true, σ)
    | .Or => some (false, σ)
  | σ, x :: xs => (R.tr c ρ σ x).bind fun p => match op, p.1 with
    | .And, false => some (false, p.2)
    | .Or, true => some (true, p.2)
    | _, _ => trAll c ρ op p.2 xs

noncomputable def putAll : List (AV × AV) → List (AV × AV) → Option (List (AV × AV))
  | es, [] => some es
  | es, p :: ps => match keyFits p.1 es with
    | true => (dPut es p.1 p.2).bind fun es' => putAll es' ps
    | false => none

noncomputable def takeN {α : Type} : Nat → List α → List α
  | 0, _ => []
  | n + 1, l => match l with
    | [] => []
    | x :: xs => x :: takeN n xs
noncomputable def dropN {α : Type} : Nat → List α → List α
  | 0, l => l
  | n + 1, l => match l with
    | [] => []
    | _ :: xs => dropN n xs
noncomputable def lenN {α : Type} : List α → Nat
  | [] => 0
  | _ :: xs => lenN xs + 1

noncomputable def nthS {α : Type} (xs : List α) (n : Nat) : Option α := match Nat.blt n 1000000 with
  | true => nth xs n
  | false => none
noncomputable def item (σ : Sto) : AV → AV → Option AV
  | .tup xs, .int i => match i with
    | .ofNat n => nthS xs n
    | _ => none
  | .gd a, .str x => gdGet K a x
  | .ref i, k => match σ.get i with
    | some ⟨.list xs, _⟩ => match k with
      | .int i => match i with
        | .ofNat n => nthS xs n
        | _ => none
      | _ => none
    | some ⟨.dict es, _⟩ => match keyFits k es with
      | true => (dFind es k).bind fun o => o
      | false => none
    | _ => none
  | _, _ => none

noncomputable def evOpt (c : Cx) (ρ : Rho) (σ : Sto) : Option Expr → Option (AV × Sto)
  | none => some (.none, σ)
  | some e => R.ev c ρ σ e
noncomputable def cut {α : Type} (xs : List α) : AV → AV → Option (List α)
  | .none, .int (.ofNat b) => some (takeN b xs)
  | .int (.ofNat a), .none => some (dropN a xs)
  | _, _ => none
noncomputable def sliced (σ : Sto) (o l u : AV) : Option (AV × Sto) := match o with
  | .tup xs => match l with
    | .int i => match i with
      | .ofNat a => match u with
        | .none => match Nat.ble 1 a with
          | true => match Nat.ble a (lenN xs) with
            | true => match small 1000 xs with
              | true => some (.tup (dropN a xs), σ)
              | false => none
            | false => none
          | false => none
        | _ => none
      | _ => none
    | _ => none
  | .ref i => (σ.list i).bind fun xs => match small 1000 xs with
    | true => (cut xs l u).bind fun ys => some (.ref σ.n, σ.new (.list ys))
    | false => none
  | .scr xs => match l, u with
    | .none, .int i => match Z.eqB i 6 with
      | true => some (.ref σ.n, σ.new (.list xs))
      | false => none
    | _, _ => none
  | _ => none

noncomputable def allStr : List AV → Bool
  | [] => true
  | .str _ :: xs => allStr xs
  | _ :: _ => false
noncomputable def nLt : List Nat → List Nat → Bool
  | [], l => match l with
    | [] => false
    | _ :: _ => true
  | a :: as, l => match l with
    | [] => false
    | b :: bs => match Nat.blt a b with
      | true => true
      | false => match Nat.beq a b with
        | true => nLt as bs
        | false => false
noncomputable def sort2 : List AV → Option (List AV)
  | [] => some []
  | [.str a] => some [.str a]
  | [.str a, .str b] => match nLt b.cps.toList a.cps.toList with
    | true => some [.str b, .str a]
    | false => some [.str a, .str b]
  | _ => none
noncomputable def pairsOf : List AV → Option (List (AV × AV))
  | [] => some []
  | .tup [.str k, v] :: xs => (pairsOf xs).bind fun r => some ((.str k, v) :: r)
  | _ :: _ => none
noncomputable def digit (i : Int) : Option Str := match i with
  | .ofNat n => match Nat.blt n 10 with
    | true => some ⟨#[48 + n]⟩
    | false => none
  | _ => none

noncomputable def biSeq (σ : Sto) (x : AV) : Option (List AV) := match x with
  | .tup xs => match small 1000 xs with
    | true => some xs
    | false => none
  | .ref i => (σ.list i).bind fun xs => match small 1000 xs with
    | true => some xs
    | false => none
  | _ => none
noncomputable def biLen (σ : Sto) : List AV → Option (AV × Sto)
  | [x] => (biSeq σ x).bind fun xs => some (.int (.ofNat (lenN xs)), σ)
  | _ => none
noncomputable def biAbs (σ : Sto) : List AV → Option (AV × Sto)
  | [x] => match x with
    | .int i => some (.int (.ofNat i.natAbs), σ)
    | .res m r => some (.resn m r, σ)
    | _ => none
  | _ => none
noncomputable def biMax (σ : Sto) : List AV → Option (AV × Sto)
  | [x, y] => match x, y with
    | .int a, .int b => some (.int (match Z.ltB a b with | true => b | false => a), σ)
    | _, _ => none
  | _ => none
noncomputable def biMin (σ : Sto) : List AV → Option (AV × Sto)
  | [x, y] => match x, y with
    | .int a, .int b => some (.int (match Z.ltB b a with | true => b | false => a), σ)
    | _, _ => none
  | _ => none
noncomputable def biRange (σ : Sto) : List AV → Option (AV × Sto)
  | [x] => match x with
    | .int i => match i with
      | .ofNat n => match Nat.ble n 1000 with
        | true => some (.rng n, σ)
        | false => none
      | _ => none
    | _ => none
  | _ => none
noncomputable def biList (σ : Sto) : List AV → Option (AV × Sto)
  | [x] => (biSeq σ x).bind fun xs => some (.ref σ.n, σ.new (.list xs))
  | _ => none
noncomputable def biTuple (σ : Sto) : List AV → Option (AV × Sto)
  | [x] => (biSeq σ x).bind fun xs => some (.tup xs, σ)
  | _ => none
noncomputable def biDict (σ : Sto) : List AV → Option (AV × Sto)
  | [x] => match x with
    | .ref i => (σ.list i).bind fun xs => match small 1000 xs with
      | true => (pairsOf xs).bind fun ps => (putAll [] ps).bind fun es => some (.ref σ.n, σ.new (.dict es))
      | false => none
    | _ => none
  | _ => none
noncomputable def biSorted (σ : Sto) : List AV → Option (AV × Sto)
  | [x] => match x with
    | .ref i => (σ.list i).bind fun xs => (sort2 xs).bind fun ys => some (.ref σ.n, σ.new (.list ys))
    | _ => none
  | _ => none
noncomputable def biStr (σ : Sto) : List AV → Option (AV × Sto)
  | [x] => match x with
    | .int i => (digit i).bind fun s => some (.str s, σ)
    | _ => none
  | _ => none
noncomputable def biCall (σ : Sto) (b : BI) (vs : List AV) : Option (AV × Sto) := match b with
  | .len => biLen σ vs
  | .abs => biAbs σ vs
  | .max => biMax σ vs
  | .min => biMin σ vs
  | .range => biRange σ vs
  | .list => biList σ vs
  | .tuple => biTuple σ vs
  | .dict => biDict σ vs
  | .sorted => biSorted σ vs
  | .str => biStr σ vs

noncomputable def mAppend : Str := ⟨#[97, 112, 112, 101, 110, 100]⟩
noncomputable def mExtend : Str := ⟨#[101, 120, 116, 101, 110, 100]⟩
noncomputable def mGet : Str := ⟨#[103, 101, 116]⟩
noncomputable def mPop : Str := ⟨#[112, 111, 112]⟩
noncomputable def mItems : Str := ⟨#[105, 116, 101, 109, 115]⟩
noncomputable def mUpdate : Str := ⟨#[117, 112, 100, 97, 116, 101]⟩
inductive Me where
  | append | extend | get | pop | items | update
noncomputable def meOf (x : Str) : Option Me := match sEq x mAppend with
  | true => some .append
  | false => match sEq x mExtend with
    | true => some .extend
    | false => match sEq x mGet with
      | true => some .get
      | false => match sEq x mPop with
        | true => some .pop
        | false => match sEq x mItems with
          | true => some .items
          | false => match sEq x mUpdate with
            | true => some .update
            | false => none

noncomputable def meAppend (σ : Sto) (i : Nat) : List AV → Option (AV × Sto)
  | [v] => (σ.list i).bind fun xs => match small 1000 xs with
    | true => some (.none, σ.put i (.list (xs ++ [v])))
    | false => none
  | _ => none
noncomputable def meExtend (σ : Sto) (i : Nat) : List AV → Option (AV × Sto)
  | [x] => match x with
    | .ref j => match Nat.beq i j with
      | true => none
      | false => (σ.list i).bind fun xs => (σ.list j).bind fun ys => match small 1000 xs with
        | true => match small 1000 ys with
          | true => some (.none, σ.put i (.list (xs ++ ys)))
          | false => none
        | false => none
    | _ => none
  | _ => none
noncomputable def meGet (σ : Sto) (i : Nat) : List AV → Option (AV × Sto)
  | [k, v] => (σ.dict i).bind fun es => match keyFits k es with
    | true => (dFind es k).bind fun o => some (o.getD v, σ)
    | false => none
  | _ => none
noncomputable def mePop (σ : Sto) (i : Nat) : List AV → Option (AV × Sto)
  | [k, v] => match k with
    | .tup ks => (σ.dict i).bind fun es => match keyFits (.tup ks) es with
      | true => match small 1000 es with
        | true => (dFind es (.tup ks)).bind fun o => match o with
          | some x => (dDel es (.tup ks)).bind fun es' => some (x, σ.put i (.dict es'))
          | none => some (v, σ)
        | false => none
      | false => none
    | _ => none
  | _ => none
noncomputable def meItems (σ : Sto) (i : Nat) : List AV → Option (AV × Sto)
  | [] => (σ.dict i).bind fun _ => some (.items i, σ)
  | _ => none
noncomputable def meUpdate (σ : Sto) (i : Nat) : List AV → Option (AV × Sto)
  | [x] => match x with
    | .ref j => match Nat.beq i j with
      | true => none
      | false => (σ.dict i).bind fun es => (σ.list j).bind fun xs => match keyFits (.str ⟨#[]⟩) es with
        | true => match small 1000 es with
          | true => match small 1000 xs with
            | true => (pairsOf xs).bind fun ps => (putAll es ps).bind fun es' => some (.none, σ.put i (.dict es'))
            | false => none
          | false => none
        | false => none
    | _ => none
  | _ => none
noncomputable def meCall (σ : Sto) (i : Nat) (m : Me) (vs : List AV) : Option (AV × Sto) := match m with
  | .append => meAppend σ i vs
  | .extend => meExtend σ i vs
  | .get => meGet σ i vs
  | .pop => mePop σ i vs
  | .items => meItems σ i vs
  | .update => meUpdate σ i vs

noncomputable def isSm {α : Type} : Option α → Bool
  | some _ => true
  | none => false
noncomputable def meReady (σ : Sto) (i : Nat) : Me → Bool
  | .append => isSm (σ.list i)
  | .extend => isSm (σ.list i)
  | .get => isSm (σ.dict i)
  | .pop => isSm (σ.dict i)
  | .items => isSm (σ.dict i)
  | .update => isSm (σ.dict i)
noncomputable def nums (k : Nat) : Nat → List AV
  | 0 => []
  | n + 1 => .int (.ofNat k) :: nums (k + 1) n
noncomputable def iter (σ : Sto) : AV → Option It
  | .tup xs => some ⟨.none, 0, xs⟩
  | .rng n => match Nat.ble n 1000 with
    | true => some ⟨.rng n, 0, nums 0 n⟩
    | false => none
  | .ref i => match σ.get i with
    | some ⟨.list xs, v⟩ => some ⟨.ref i, v, xs⟩
    | some ⟨.dict es, v⟩ => match keyFits (.str ⟨#[]⟩) es with
      | true => some ⟨.ref i, v, es.map (·.1)⟩
      | false => none
    | _ => none
  | .items i => match σ.get i with
    | some ⟨.dict es, v⟩ => match keyFits (.tup []) es with
      | true => some ⟨.items i, v, es.map fun e => .tup [e.1, e.2]⟩
      | false => none
    | _ => none
  | _ => none
noncomputable def watch (σ : Sto) (it : It) : Bool := match it.kind with
  | .ref i => match σ.get i with
    | some c => Nat.beq c.ver it.ver
    | none => false
  | .items i => match σ.get i with
    | some c => Nat.beq c.ver it.ver
    | none => false
  | _ => true

noncomputable def ownOk (k : AV) (t : Expr) : Bool := match k with
  | .items _ => (match t with
    | .Tuple _ _ _ => true
    | _ => false)
  | _ => true
noncomputable def ready (σ : Sto) (it : It) (t : Expr) : Bool := match ownOk it.kind t with
  | true => watch σ it
  | false => false

noncomputable def doCall (c : Cx) (σ : Sto) (f : AV) (vs : List AV) : Option (AV × Sto) := match f with
  | .bi b => biCall σ b vs
  | .fn a => match c.d with
    | 0 => none
    | d + 1 => (fnAt K a).bind fun F => match Nat.beq (lenN F.ps) (lenN vs) with
      | true => (R.ex ⟨d, F.sc⟩ (F.ps.zip vs) σ F.body).bind fun p => match p.1 with
        | .ret v => some (v, p.2.2)
        | .next => some (.none, p.2.2)
      | false => none
  | _ => none

noncomputable def freeOf : List (Str × NameKind) → Rho → Rho
  | [], _ => []
  | p :: ps, ρ => match p.2 with
    | .free => match lk ρ p.1 with
      | some v => (p.1, v) :: freeOf ps ρ
      | none => freeOf ps ρ
    | _ => freeOf ps ρ
noncomputable def compOk (sc : List (Str × NameKind)) : List (Str × NameKind) → Bool
  | [] => true
  | p :: ps => match p.2 with
    | .free => (match kindIn sc p.1 with
      | some .cell => compOk sc ps
      | some .free => compOk sc ps
      | _ => false)
    | .local => compOk sc ps
    | .globalImplicit => compOk sc ps
    | _ => false

noncomputable def memS : List Str → Str → Bool
  | [], _ => false
  | y :: ys, x => match sEq y x with
    | true => true
    | false => memS ys x
noncomputable def nodupS : List Str → Bool
  | [] => true
  | x :: xs => match memS xs x with
    | true => false
    | false => nodupS xs
noncomputable def noSet : Expr → Bool
  | .Set _ _ _ => false
  | _ => true
noncomputable def funKind : ScopeKind → Bool
  | .function => true
  | _ => false
noncomputable def lcOk (c : Cx) (scope : Scope) : Bool := match funKind scope.kind with
  | true => match nodupS (scope.names.map (·.1)) with
    | true => compOk c.sc scope.names
    | false => false
  | false => false
noncomputable def lcStep (c : Cx) (ρ : Rho) (σ : Sto) (e : Expr) (gens : List Comprehension) (scope : Scope) : Option (AV × Sto) := match gens with
  | [] => none
  | g :: _ => match Z.eqB g.is_async 0, noSet g.iter, lcOk c scope with
    | true, true, true => (R.ev c ρ σ g.iter).bind fun x => (iter x.2 x.1).bind fun it =>
      (R.co ⟨c.d, scope.names⟩ (freeOf scope.names ρ) (x.2.new (.list [])) e gens 0 it x.2.n).bind fun p => some (.ref x.2.n, p.2)
    | _, _, _ => none
noncomputable def evStep (c : Cx) (ρ : Rho) (σ : Sto) (e : Expr) : Option (AV × Sto) := match e with
  | .Constant k _ _ => (evConst k).bind fun v => some (v, σ)
  | .Name x _ => (evName K c ρ x).bind fun v => some (v, σ)
  | .BoolOp op vs _ => boolVals R c ρ op σ vs
  | .BinOp l op r _ => (R.ev c ρ σ l).bind fun a => (R.ev c ρ a.2 r).bind fun b => binOp b.2 op a.1 b.1
  | .UnaryOp op x _ => match op with
    | .Not => (R.ev c ρ σ x).bind fun a => (truthOf a.1).bind fun t => some (.bool (!t), a.2)
    | .USub => (R.ev c ρ σ x).bind fun a => match a.1 with
      | .int i => some (.int (-i), a.2)
      | _ => none
    | _ => none
  | .IfExp t a b _ => (R.tr c ρ σ t).bind fun p => match p.1 with
    | true => R.ev c ρ p.2 a
    | false => R.ev c ρ p.2 b
  | .Dict ks vs _ => match ks, vs with
    | [], [] => some (.ref σ.n, σ.new (.dict []))
    | [some k], [v] => (R.ev c ρ σ k).bind fun p => (R.ev c ρ p.2 v).bind fun q => match p.1 with
      | .str x => some (.ref q.2.n, q.2.new (.dict [(.str x, q.1)]))
      | _ => none
    | _, _ => none
  | .List es _ => (evAll R c ρ σ es).bind fun p => match small 1000 p.1 with
    | true => some (.ref p.2.n, p.2.new (.list p.1))
    | false => none
  | .Tuple es _ _ => (evAll R c ρ σ es).bind fun p => match small 1000 p.1 with
    | true => some (.tup p.1, p.2)
    | false => none
  | .ListComp _ gens scope _ => lcStep R c ρ σ e gens scope
  | .Compare l ops rs _ => match ops, rs with
    | [op], [r] => match noSet r with
      | true => (R.ev c ρ σ l).bind fun a => (R.ev c ρ a.2 r).bind fun b => (cmpOp b.2 op a.1 b.1).bind fun t => some (.bool t, b.2)
      | false => none
    | _, _ => none
  | .Call f args kws pos => match kws with
    | [] => match f with
      | .Attribute o name apos => match o with
        | .Name _ _ => match Nat.beq apos.endLine pos.line, small 20 args with
          | true, true => (R.ev c ρ σ o).bind fun x => match x.1 with
            | .ref i => (meOf name).bind fun m => match meReady x.2 i m with
              | true => (evAll R c ρ x.2 args).bind fun p => meCall p.2 i m p.1
              | false => none
            | _ => none
          | _, _ => none
        | _ => none
      | _ => (R.ev c ρ σ f).bind fun x => (evAll R c ρ x.2 args).bind fun p => doCall K R c p.2 x.1 p.1
    | _ :: _ => none
  | .Subscript o i _ => match i with
    | .Slice l u s _ => match s with
      | none => (R.ev c ρ σ o).bind fun x => (evOpt R c ρ x.2 l).bind fun a => (evOpt R c ρ a.2 u).bind fun b => sliced b.2 x.1 a.1 b.1
      | some _ => none
    | _ => (R.ev c ρ σ o).bind fun x => (R.ev c ρ x.2 i).bind fun k => (item K k.2 x.1 k.1).bind fun v => some (v, k.2)
  | _ => none

noncomputable def trStep (c : Cx) (ρ : Rho) (σ : Sto) (e : Expr) : Option (Bool × Sto) := match e with
  | .UnaryOp op x _ => match op with
    | .Not => (R.tr c ρ σ x).bind fun p => some (!p.1, p.2)
    | _ => none
  | .BoolOp op vs _ => trAll R c ρ op σ vs
  | .IfExp _ _ _ _ => none
  | .Compare l ops rs _ => match ops, rs with
    | [op], [r] => match noSet r with
      | true => (R.ev c ρ σ l).bind fun a => (R.ev c ρ a.2 r).bind fun b => (cmpOp b.2 op a.1 b.1).bind fun t => some (t, b.2)
      | false => none
    | _, _ => none
  | _ => (R.ev c ρ σ e).bind fun p => (truthOf p.1).bind fun t => some (t, p.2)

noncomputable def namesOf : List Expr → Option (List Str)
  | [] => some []
  | e :: es => match e with
    | .Name x _ => (namesOf es).bind fun r => some (x :: r)
    | _ => none
noncomputable def isLocal (sc : List (Str × NameKind)) (x : Str) : Bool := match kindIn sc x with
  | some .local => true
  | some .cell => true
  | _ => false
noncomputable def setAll (sc : List (Str × NameKind)) : Rho → List Str → List AV → Option Rho
  | ρ, [], vs => match vs with
    | [] => some ρ
    | _ :: _ => none
  | ρ, x :: xs, vs => match vs with
    | [] => none
    | v :: vs => match isLocal sc x with
      | true => setAll sc (setR ρ x v) xs vs
      | false => none
noncomputable def letTo (sc : List (Str × NameKind)) (ρ : Rho) (t : Expr) (v : AV) : Option Rho := match t with
  | .Name x _ => match isLocal sc x with
    | true => some (setR ρ x v)
    | false => none
  | .Tuple es _ _ => (namesOf es).bind fun xs => match nodupS xs with
    | true => match v with
      | .tup vs => setAll sc ρ xs vs
      | _ => none
    | false => none
  | _ => none
noncomputable def storeItem (σ : Sto) (o k v : AV) : Option Sto := match o with
  | .ref i => match σ.get i with
    | some c => match c.body with
      | .list xs => match k with
        | .int n => match n with
          | .ofNat n => match Nat.blt n (lenN xs), small 1000 xs with
            | true, true => some (σ.put i (.list (setNth xs n v)))
            | _, _ => none
          | _ => none
        | _ => none
      | .dict es => match keyFits k es with
        | true => match small 1000 es with
          | true => (dPut es k v).bind fun es' => some (σ.put i (.dict es'))
          | false => none
        | false => none
      | .hid => none
    | none => none
  | _ => none
noncomputable def tupConst : List Expr → Expr → Bool
  | [.Tuple _ _ _], .Tuple vs _ _ => vs.all (constantsAlone 8)
  | _, _ => false

noncomputable def asgStep (c : Cx) (ρ : Rho) (σ : Sto) (t e : Expr) : Option (Fl × Rho × Sto) := match tupConst [t] e with
  | true => none
  | false => match e with
    | .ListComp elt gens scope p => (lcStep R c ρ σ (.ListComp elt gens scope p) gens scope).bind fun v => (letTo c.sc ρ t v.1).bind fun ρ' => some (.next, ρ', v.2)
    | .SetComp _ _ _ _ => none
    | .DictComp _ _ _ _ _ => none
    | _ => (R.ev c ρ σ e).bind fun v => (letTo c.sc ρ t v.1).bind fun ρ' => some (.next, ρ', v.2)
noncomputable def exOne (c : Cx) (ρ : Rho) (σ : Sto) (s : Stmt) : Option (Fl × Rho × Sto) := match s with
  | .Assign ts e _ => match ts with
    | [t] => match t with
      | .Subscript o i _ => (R.ev c ρ σ e).bind fun v => (R.ev c ρ v.2 o).bind fun x => (R.ev c ρ x.2 i).bind fun k => (storeItem k.2 x.1 k.1 v.1).bind fun σ' => some (.next, ρ, σ')
      | _ => asgStep R c ρ σ t e
    | _ => none
  | .AugAssign t op e _ => match t with
    | .Name x _ => match op with
      | .Add => (lk ρ x).bind fun a => (R.ev c ρ σ e).bind fun b => match a, b.1 with
        | .int i, .int j => match isLocal c.sc x with
          | true => some (.next, setR ρ x (.int (i + j)), b.2)
          | false => none
        | _, _ => none
      | _ => none
    | _ => none
  | .Expr e _ => match e with
    | .Call _ _ _ _ => (R.ev c ρ σ e).bind fun v => match v.1 with
      | .none => some (.next, ρ, v.2)
      | _ => none
    | _ => none
  | .Return e _ => match e with
    | some e => (R.ev c ρ σ e).bind fun v => some (.ret v.1, ρ, v.2)
    | none => some (.ret .none, ρ, σ)
  | .If t a b _ => (R.tr c ρ σ t).bind fun p => match p.1 with
    | true => R.ex c ρ p.2 a
    | false => R.ex c ρ p.2 b
  | .While t b e _ => match e with
    | [] => R.wh c ρ σ t b
    | _ :: _ => none
  | .For t i b e _ => match e with
    | [] => match noSet i with
      | true => (R.ev c ρ σ i).bind fun x => (iter x.2 x.1).bind fun it => R.fo c ρ x.2 t it b
      | false => none
    | _ :: _ => none
  | _ => none
noncomputable def exStep (c : Cx) : Rho → Sto → List Stmt → Option (Fl × Rho × Sto)
  | ρ, σ, [] => some (.next, ρ, σ)
  | ρ, σ, s :: ss => (exOne R c ρ σ s).bind fun p => match p.1 with
    | .next => exStep c p.2.1 p.2.2 ss
    | .ret v => some (.ret v, p.2)
noncomputable def whStep (c : Cx) (ρ : Rho) (σ : Sto) (t : Expr) (b : List Stmt) : Option (Fl × Rho × Sto) :=
  (R.tr c ρ σ t).bind fun p => match p.1 with
    | false => some (.next, ρ, p.2)
    | true => (R.ex c ρ p.2 b).bind fun q => match q.1 with
      | .next => R.wh c q.2.1 q.2.2 t b
      | .ret v => some (.ret v, q.2)
noncomputable def foStep (c : Cx) (ρ : Rho) (σ : Sto) (t : Expr) (it : It) (b : List Stmt) : Option (Fl × Rho × Sto) := match ready σ it t with
  | false => none
  | true => match it.rest with
    | [] => some (.next, ρ, σ)
    | v :: vs => (letTo c.sc ρ t v).bind fun ρ' => (R.ex c ρ' σ b).bind fun q => match q.1 with
      | .next => R.fo c q.2.1 q.2.2 t ⟨it.kind, it.ver, vs⟩ b
      | .ret v => some (.ret v, q.2)
noncomputable def tests (c : Cx) (ρ : Rho) : Sto → List Expr → Option (Bool × Sto)
  | σ, [] => some (true, σ)
  | σ, t :: ts => (R.tr c ρ σ t).bind fun p => match p.1 with
    | true => tests c ρ p.2 ts
    | false => some (false, p.2)
noncomputable def coStep (c : Cx) (ρ : Rho) (σ : Sto) (e : Expr) (gens : List Comprehension) (k : Nat) (it : It) (acc : Nat) : Option (Rho × Sto) := match nth gens k with
  | none => none
  | some g => match Z.eqB g.is_async 0 with
    | false => none
    | true => match ready σ it g.target with
      | false => none
      | true => match it.rest with
        | [] => some (ρ, σ)
        | v :: vs => (letTo c.sc ρ g.target v).bind fun ρ' => (tests R c ρ' σ g.ifs).bind fun ok => match ok.1 with
          | false => R.co c ρ' ok.2 e gens k ⟨it.kind, it.ver, vs⟩ acc
          | true => match nth gens (k + 1) with
            | none => match e with
              | .ListComp elt _ _ _ => (R.ev c ρ' ok.2 elt).bind fun x => (meAppend x.2 acc [x.1]).bind fun y => R.co c ρ' y.2 e gens k ⟨it.kind, it.ver, vs⟩ acc
              | _ => none
            | some g' => match Z.eqB g'.is_async 0, noSet g'.iter with
              | true, true => (R.ev c ρ' ok.2 g'.iter).bind fun x => (iter x.2 x.1).bind fun it' => (R.co c ρ' x.2 e gens (k + 1) it' acc).bind fun q =>
                R.co c q.1 q.2 e gens k ⟨it.kind, it.ver, vs⟩ acc
              | _, _ => none
end

noncomputable def Rec.bot : Rec := ⟨fun _ _ _ _ => none, fun _ _ _ _ => none, fun _ _ _ _ => none, fun _ _ _ _ _ => none, fun _ _ _ _ _ _ => none, fun _ _ _ _ _ _ _ _ => none⟩
noncomputable def Rec.step (K : Frag) (R : Rec) : Rec := ⟨evStep K R, trStep R, exStep R, whStep R, foStep R, coStep R⟩
noncomputable def Rec.at (K : Frag) : Nat → Rec
  | 0 => .bot
  | n + 1 => .step K (Rec.at K n)
end Mine
end
section
open PySem PySem.W
set_option maxRecDepth 100000
set_option linter.unusedVariables false
namespace Mine

noncomputable def biVal : BI → Value
  | .len => .builtin "len"
  | .abs => .builtin "abs"
  | .max => .builtin "max"
  | .min => .builtin "min"
  | .range => .type "range"
  | .list => .type "list"
  | .tuple => .type "tuple"
  | .dict => .type "dict"
  | .sorted => .builtin "sorted"
  | .str => .type "str"

noncomputable def isImm (o : Obj) : Bool := match o.data with
  | .seq _ _ => o.cls == .type "tuple"
  | .fields _ => o.cls == .type "range" || o.cls == .type "dict_items"
  | _ => false
noncomputable def soft (o : Obj) : Bool := match o.data with
  | .seq _ _ => o.cls == .type "list"
  | .dict _ _ => true
  | .cell _ => true
  | _ => false
theorem soft_ni {o : Obj} (h : soft o = true) : isImm o = false := by
  obtain ⟨c, d, dt, sl⟩ := o
  cases dt with
  | seq xs n =>
    have hc : c = .type "list" := by simpa [soft] using h
    subst hc
    show (Value.type "list" == Value.type "tuple") = false
    decide
  | fields vs => simp [soft] at h
  | _ => rfl
theorem soft_fields {o : Obj} {vs : Array Value} (h : soft o = true) (e : o.data = .fields vs) : False := by
  unfold soft at h; rw [e] at h; cases h

noncomputable def IsView (h : Heap) (v d : Addr) : Prop := ∃ o, h.get? v = some o ∧ o.cls = .type "dict_items" ∧ o.data = .fields #[.ref d]

mutual
inductive RV (h₀ h : Heap) (W : List Addr) : AV → Value → Prop
  | none : RV h₀ h W .none .none
  | bool (b : Bool) : RV h₀ h W (.bool b) (.bool b)
  | int (i : Int) (t : Tok) : RV h₀ h W (.int i) (.int i t)
  | str (s : Str) (t : Tok) : RV h₀ h W (.str s) (.str s t)
  | tup {xs : List AV} {a : Addr} {vs : Array Value} : h.IsTuple a vs → RVs h₀ h W xs vs.toList → RV h₀ h W (.tup xs) (.ref a)
  | ref {i : Nat} {a : Addr} : W[i]? = some a → RV h₀ h W (.ref i) (.ref a)
  | fn (a : Addr) : RV h₀ h W (.fn a) (.ref a)
  | bi {b : BI} {v : Value} : v = biVal b → RV h₀ h W (.bi b) v
  | gd (a : Addr) : RV h₀ h W (.gd a) (.ref a)
  | rng {n : Nat} {r : Addr} {t u v : Tok} : IsRange h r 0 n 1 t u v → RV h₀ h W (.rng n) (.ref r)
  | items {i : Nat} {v d : Addr} : W[i]? = some d → IsView h v d → RV h₀ h W (.items i) (.ref v)
  | res {m r : Nat} {i : Int} (t : Tok) : i.natAbs % m = r → RV h₀ h W (.res m r) (.int i t)
  | resn {m r n : Nat} (t : Tok) : n % m = r → RV h₀ h W (.resn m r) (.int n t)
  | unk {i : Int} {t : Tok} : RV h₀ h W .unk (.int i t)
  | scr {xs : List AV} {a : Addr} {vs : Array Value} : h₀.IsList a vs → vs.size ≤ 1048576 → RVs h₀ h W xs (vs.toList.take 6) → RV h₀ h W (.scr xs) (.ref a)
inductive RVs (h₀ h : Heap) (W : List Addr) : List AV → List Value → Prop
  | nil : RVs h₀ h W [] []
  | cons {x : AV} {v : Value} {xs : List AV} {vs : List Value} : RV h₀ h W x v → RVs h₀ h W xs vs → RVs h₀ h W (x :: xs) (v :: vs)
end

noncomputable def Keep (P : Addr → Prop) (h h' : Heap) : Prop := ∀ b o, ¬ P b → h.get? b = some o → h'.get? b = some o
noncomputable def NI (P : Addr → Prop) (h : Heap) : Prop := ∀ b o, P b → h.get? b = some o → isImm o = false

theorem Keep.imm {P : Addr → Prop} {h h' : Heap} (k : Keep P h h') (n : NI P h) {a : Addr} {o : Obj} (e : h.get? a = some o) (i : isImm o = true) : h'.get? a = some o :=
  k a o (fun p => by have := n a o p e; rw [i] at this; cases this) e
theorem imm_tuple {o : Obj} {vs : Array Value} {n : Nat} (hc : o.cls = .type "tuple") (hd : o.data = .seq vs n) : isImm o = true := by
  unfold isImm; rw [hd, hc]; rfl
theorem imm_range {o : Obj} {vs : Array Value} (hc : o.cls = .type "range") (hd : o.data = .fields vs) : isImm o = true := by unfold isImm; rw [hd, hc]; rfl
theorem imm_items {o : Obj} {vs : Array Value} (hc : o.cls = .type "dict_items") (hd : o.data = .fields vs) : isImm o = true := by unfold isImm; rw [hd, hc]; rfl
theorem soft_list {o : Obj} {vs : Array Value} {n : Nat} (hc : o.cls = .type "list") (hd : o.data = .seq vs n) : soft o = true := by
  unfold soft; rw [hd, hc]; rfl
theorem soft_dict {o : Obj} {es : Array DictEntry} {n : Nat} (hd : o.data = .dict es n) : soft o = true := by unfold soft; rw [hd]
theorem soft_cell {o : Obj} {v : Option Value} (hd : o.data = .cell v) : soft o = true := by unfold soft; rw [hd]

section
variable {h₀ h h' : Heap} {W W' : List Addr}
mutual
theorem RV.keep {P : Addr → Prop} (k : Keep P h h') (n : NI P h) (hW : ∀ (i : Nat) (a : Addr), W[i]? = some a → W'[i]? = some a) :
    ∀ {x : AV} {v : Value}, RV h₀ h W x v → RV h₀ h' W' x v
  | _, _, .none => .none
  | _, _, .bool b => .bool b
  | _, _, .int i t => .int i t
  | _, _, .str s t => .str s t
  | _, _, .tup ht r => by
    obtain ⟨o, e, hc, m, hd⟩ := ht
    exact .tup ⟨o, k.imm n e (imm_tuple hc hd), hc, m, hd⟩ (RVs.keep k n hW r)
  | _, _, .ref e => .ref (hW _ _ e)
  | _, _, .fn a => .fn a
  | _, _, .bi e => .bi e
  | _, _, .gd a => .gd a
  | _, _, .rng e => .rng (k.imm n e (imm_range rfl rfl))
  | _, _, .items e v => by
    obtain ⟨o, e', hc, hd⟩ := v
    exact .items (hW _ _ e) ⟨o, k.imm n e' (imm_items hc hd), hc, hd⟩
  | _, _, .res t e => .res t e
  | _, _, .resn t e => .resn t e
  | _, _, .unk => .unk
  | _, _, .scr hl z r => .scr hl z (RVs.keep k n hW r)
theorem RVs.keep {P : Addr → Prop} (k : Keep P h h') (n : NI P h) (hW : ∀ (i : Nat) (a : Addr), W[i]? = some a → W'[i]? = some a) :
    ∀ {xs : List AV} {vs : List Value}, RVs h₀ h W xs vs → RVs h₀ h' W' xs vs
  | _, _, .nil => .nil
  | _, _, .cons r rs => .cons (RV.keep k n hW r) (RVs.keep k n hW rs)
end

theorem RVs.length : ∀ {xs : List AV} {vs : List Value}, RVs h₀ h W xs vs → xs.length = vs.length
  | _, _, .nil => rfl
  | _, _, .cons _ rs => by rw [List.length_cons, List.length_cons, RVs.length rs]
theorem RVs.append : ∀ {xs ys : List AV} {vs us : List Value}, RVs h₀ h W xs vs → RVs h₀ h W ys us → RVs h₀ h W (xs ++ ys) (vs ++ us)
  | _, _, _, _, .nil, q => q
  | _, _, _, _, .cons r rs, q => .cons r (RVs.append rs q)
theorem RVs.nth : ∀ {xs : List AV} {vs : List Value} {n : Nat} {x : AV}, RVs h₀ h W xs vs → nth xs n = some x → ∃ v, vs[n]? = some v ∧ RV h₀ h W x v
  | _, _, n, x, .nil, e => by cases e
  | _, _, 0, x, .cons r _, e => by cases e; exact ⟨_, rfl, r⟩
  | _, _, n + 1, x, .cons _ rs, e => by
    obtain ⟨v, e', q⟩ := RVs.nth rs e
    exact ⟨v, by simpa using e', q⟩
theorem RVs.drop : ∀ {xs : List AV} {vs : List Value} (n : Nat), RVs h₀ h W xs vs → RVs h₀ h W (dropN n xs) (vs.drop n)
  | _, _, 0, r => r
  | _, _, n + 1, .nil => .nil
  | _, _, n + 1, .cons _ rs => RVs.drop n rs
theorem RVs.take : ∀ {xs : List AV} {vs : List Value} (n : Nat), RVs h₀ h W xs vs → RVs h₀ h W (takeN n xs) (vs.take n)
  | _, _, 0, r => .nil
  | _, _, n + 1, .nil => .nil
  | _, _, n + 1, .cons r rs => .cons r (RVs.take n rs)
theorem RVs.setNth : ∀ {xs : List AV} {vs : List Value} {n : Nat} {y : AV} {u : Value}, RVs h₀ h W xs vs → RV h₀ h W y u → RVs h₀ h W (setNth xs n y) (vs.set n u)
  | _, _, n, y, u, .nil, _ => by cases n <;> exact .nil
  | _, _, 0, y, u, .cons _ rs, q => .cons q rs
  | _, _, n + 1, y, u, .cons r rs, q => .cons r (RVs.setNth rs q)
theorem lenN_eq {α : Type} : ∀ xs : List α, lenN xs = xs.length
  | [] => rfl
  | _ :: xs => by rw [lenN, lenN_eq xs, List.length_cons]
theorem small_le {α : Type} : ∀ {n : Nat} {xs : List α}, small n xs = true → xs.length ≤ n
  | _, [], _ => Nat.zero_le _
  | 0, _ :: _, e => by cases e
  | n + 1, _ :: xs, e => Nat.succ_le_succ (small_le (n := n) (xs := xs) e)
end

theorem nEq_iff : ∀ {a b : List Nat}, nEq a b = true ↔ a = b
  | [], [] => ⟨fun _ => rfl, fun _ => rfl⟩
  | [], _ :: _ => by simp [nEq]
  | _ :: _, [] => by simp [nEq]
  | a :: as, b :: bs => by
    unfold nEq
    cases q : Nat.beq a b with
    | true =>
      have := Nat.eq_of_beq_eq_true q
      subst this
      simpa using nEq_iff (a := as) (b := bs)
    | false =>
      have := Nat.ne_of_beq_eq_false q
      simp [this]
theorem sEq_iff {a b : Str} : sEq a b = true ↔ a = b := by
  unfold sEq
  rw [nEq_iff]
  cases a; cases b
  simp only [Str.mk.injEq]
  exact Array.toList_inj
theorem sEq_self (a : Str) : sEq a a = true := sEq_iff.mpr rfl
theorem sEq_false {a b : Str} : sEq a b = false ↔ a ≠ b := by
  rw [← Bool.not_eq_true, sEq_iff]
theorem sEq_decide (a b : Str) : sEq a b = decide (a = b) := by
  by_cases e : a = b
  · rw [decide_eq_true e, sEq_iff.mpr e]
  · rw [decide_eq_false e, sEq_false.mpr e]
theorem kindIn_eq : ∀ (sc : List (Str × NameKind)) (x : Str), kindIn sc x = sc.lookup x
  | [], _ => rfl
  | p :: r, x => by
    obtain ⟨y, k⟩ := p
    unfold kindIn
    rw [List.lookup_cons]
    cases q : sEq y x with
    | true =>
      have := sEq_iff.mp q
      subst this
      simp
    | false =>
      have : (x == y) = false := by simpa using fun e => sEq_false.mp q e.symm
      simp only [this]
      exact kindIn_eq r x
theorem lk_setR (x : Str) (v : AV) : ∀ (ρ : Rho) (y : Str), lk (setR ρ x v) y = if y = x then some v else lk ρ y
  | [], y => by
    unfold setR lk lk
    by_cases e : y = x
    · subst e; simp [sEq_self]
    · have : sEq x y = false := sEq_false.mpr fun q => e q.symm
      simp [this, e]
  | p :: r, y => by
    unfold setR
    cases q : sEq p.1 x with
    | true =>
      have hp := sEq_iff.mp q
      simp only
      unfold lk
      by_cases e : y = x
      · subst e; simp [sEq_self]
      · have h1 : sEq x y = false := sEq_false.mpr fun q => e q.symm
        have h2 : sEq p.1 y = false := by rw [hp]; exact h1
        simp [h1, h2, e]
    | false =>
      have hp := sEq_false.mp q
      simp only
      unfold lk
      cases q' : sEq p.1 y with
      | true =>
        have hy := sEq_iff.mp q'
        have : y ≠ x := fun e => hp (hy.trans e)
        simp [this]
      | false =>
        simp only
        exact lk_setR x v r y

theorem nth_eq {α : Type} : ∀ (xs : List α) (n : Nat), nth xs n = xs[n]?
  | [], n => by cases n <;> rfl
  | x :: xs, 0 => rfl
  | x :: xs, n + 1 => by unfold nth; simpa using nth_eq xs n
theorem setNth_eq {α : Type} : ∀ (xs : List α) (n : Nat) (y : α), setNth xs n y = xs.set n y
  | [], n, y => by cases n <;> rfl
  | x :: xs, 0, y => rfl
  | x :: xs, n + 1, y => by unfold setNth; simpa using setNth_eq xs n y
theorem lkA_eq : ∀ (K : Frag) (a : Addr), lkA K a = K.lookup a
  | [], _ => rfl
  | p :: r, a => by
    obtain ⟨b, o⟩ := p
    unfold lkA
    rw [List.lookup_cons]
    cases q : Nat.beq b a with
    | true =>
      have := Nat.eq_of_beq_eq_true q
      subst this; simp
    | false =>
      have h1 := Nat.ne_of_beq_eq_false q
      have : (a == b) = false := by simpa using fun e => h1 e.symm
      simp only [this]
      exact lkA_eq r a
end Mine
end
section
open PySem PySem.W PySem.SeqAt
set_option maxRecDepth 100000
set_option linter.unusedVariables false
namespace Mine

theorem zEq_iff (a b : Int) : Z.eqB a b = (a == b) := by
  by_cases e : a = b
  · subst e; rw [(Z.eqB_iff a a).mpr rfl]; simp
  · have : Z.eqB a b = false := by rw [← Bool.not_eq_true, Z.eqB_iff]; exact e
    rw [this]; simp [e]
theorem sEq_beq (a b : Str) : sEq a b = (a == b) := by
  rw [sEq_decide]
  by_cases e : a = b
  · subst e; simp
  · simp [e]

theorem zipAll_cons {f : AV → AV → Option Bool} {x y : AV} {xs ys : List AV} {r : Bool} (h : zipAll f (x :: xs) (y :: ys) = some r) : ∃ b c, f x y = some b ∧ zipAll f xs ys = some c ∧ r = (b && c) := by
  simp only [zipAll] at h
  cases hf : f x y with
  | none => rw [hf] at h; cases h
  | some b =>
    rw [hf] at h
    cases hz : zipAll f xs ys with
    | none => rw [hz] at h; cases h
    | some c =>
      rw [hz] at h
      exact ⟨b, c, rfl, rfl, by cases b <;> (injection h with h; exact h.symm)⟩
theorem zipAll_some {f : AV → AV → Option Bool} : ∀ {xs ys : List AV} {r : Bool}, zipAll f xs ys = some r →
    (∀ (j : Nat) (x y : AV), xs[j]? = some x → ys[j]? = some y → ∃ b, f x y = some b) ∧
    r = ((List.range (min xs.length ys.length)).all (fun j => match xs[j]?, ys[j]? with | some x, some y => (f x y).getD false | _, _ => false) && xs.length == ys.length)
  | [], [], r, h => by cases h; exact ⟨fun j x y e => (nomatch e), by simp⟩
  | [], _ :: _, r, h => by cases h; exact ⟨fun j x y e => (nomatch e), by simp⟩
  | _ :: _, [], r, h => by cases h; exact ⟨fun j x y _ e => (nomatch e), by simp⟩
  | x :: xs, y :: ys, r, h => by
    obtain ⟨b, c, hf, hz, hr⟩ := zipAll_cons h
    obtain ⟨h1, h2⟩ := zipAll_some hz
    refine ⟨fun j x' y' ex ey => ?_, ?_⟩
    · cases j with
      | zero => cases ex; cases ey; exact ⟨b, hf⟩
      | succ j => exact h1 j x' y' (by simpa using ex) (by simpa using ey)
    · rw [hr, h2]
      have hm : min (x :: xs).length (y :: ys).length = min xs.length ys.length + 1 := by simp only [List.length_cons]; omega
      rw [hm, List.range_succ_eq_map]
      simp only [List.all_cons, List.all_map, List.getElem?_cons_zero, hf, Option.getD_some, Bool.and_assoc]
      congr 1
      congr 1
      simp only [List.length_cons]
      by_cases e : xs.length = ys.length <;> simp [e]

section
variable {h₀ h : Heap} {W : List Addr}
mutual
theorem RV.eqSame : ∀ (n : Nat) {x y : AV} {v : Value} {r : Bool}, RV h₀ h W x v → RV h₀ h W y v → dEq n x y = some r → r = true
  | n, _, _, _, r, .int i t, q, e => by
    cases q <;> simp [dEq] at e
    rw [← e, (Z.eqB_iff _ _).mpr rfl]
  | n, _, _, _, r, .str s t, q, e => by
    cases q <;> simp [dEq] at e
    rw [← e, sEq_self]
  | n, _, _, _, r, .bool b, q, e => by
    cases q with
    | bool _ =>
      cases b <;> simp [dEq] at e <;> simp [e]
    | _ => simp [dEq] at e
  | n, _, _, _, r, .tup ht rs, q, e => by
    cases q with
    | tup ht' rs' =>
      obtain ⟨o, ho, hc, m, hd⟩ := ht
      obtain ⟨o', ho', hc', m', hd'⟩ := ht'
      rw [ho] at ho'
      cases ho'
      rw [hd] at hd'
      injection hd' with hv
      subst hv
      cases n with
      | zero => simp [dEq] at e
      | succ n => exact RVs.eqSame n rs rs' (by simpa [dEq] using e)
    | _ => simp [dEq] at e
  | n, _, _, _, r, .none, q, e => by simp [dEq] at e
  | n, _, _, _, r, .ref _, q, e => by simp [dEq] at e
  | n, _, _, _, r, .fn _, q, e => by simp [dEq] at e
  | n, _, _, _, r, .bi _, q, e => by simp [dEq] at e
  | n, _, _, _, r, .gd _, q, e => by simp [dEq] at e
  | n, _, _, _, r, .rng _, q, e => by simp [dEq] at e
  | n, _, _, _, r, .items _ _, q, e => by simp [dEq] at e
  | n, _, _, _, r, .res _ _, q, e => by simp [dEq] at e
  | n, _, _, _, r, .resn _ _, q, e => by simp [dEq] at e
  | n, _, _, _, r, .unk, q, e => by simp [dEq] at e
  | n, _, _, _, r, .scr _ _ _, q, e => by simp [dEq] at e
theorem RVs.eqSame : ∀ (n : Nat) {xs ys : List AV} {vs : List Value} {r : Bool}, RVs h₀ h W xs vs → RVs h₀ h W ys vs → zipAll (dEq n) xs ys = some r → r = true
  | n, _, _, _, r, .nil, q, e => by cases q; cases e; rfl
  | n, _, _, _, r, .cons a as, q, e => by
    cases q with
    | cons b bs =>
      obtain ⟨u, c, hu, hc, hr⟩ := zipAll_cons e
      have h1 := RV.eqSame n a b hu
      have h2 := RVs.eqSame n as bs hc
      subst h1 h2
      exact hr
end
end

theorem pairs_eq {n : Nat} {xs ys : List AV} {vs us : Array Value} {h₀ : Heap} {W : List Addr} {A : Around} {s : Shared}
    (rx : RVs h₀ s.heap W xs vs.toList) (ry : RVs h₀ s.heap W ys us.toList) (ok : ∀ (j : Nat) (x y : AV), xs[j]? = some x → ys[j]? = some y → ∃ b, dEq n x y = some b)
    (ih : ∀ {x y : AV} {v u : Value} {r : Bool}, RV h₀ s.heap W x v → RV h₀ s.heap W y u → dEq n x y = some r → EqAt A s v u r) :
    ∀ j (h1 : j < vs.size) (h2 : j < us.size), EqAt A s vs[j] us[j] ((fun j => match xs[j]?, ys[j]? with | some x, some y => (dEq n x y).getD false | _, _ => false) j) := by
  intro j h1 h2
  have l1 := RVs.length rx
  have l2 := RVs.length ry
  have k1 : j < xs.length := by rw [l1]; simpa using h1
  have k2 : j < ys.length := by rw [l2]; simpa using h2
  obtain ⟨v, hv, rv⟩ := RVs.nth (n := j) (x := xs[j]) rx (by rw [nth_eq]; simp [k1])
  obtain ⟨u, hu, ru⟩ := RVs.nth (n := j) (x := ys[j]) ry (by rw [nth_eq]; simp [k2])
  have ev : vs[j] = v := by
    have : vs[j]? = some v := by rw [← Array.getElem?_toList]; exact hv
    simpa [h1] using this
  have eu : us[j] = u := by
    have : us[j]? = some u := by rw [← Array.getElem?_toList]; exact hu
    simpa [h2] using this
  obtain ⟨b, hb⟩ := ok j xs[j] ys[j] (by simp [k1]) (by simp [k2])
  have : ((fun j => match xs[j]?, ys[j]? with | some x, some y => (dEq n x y).getD false | _, _ => false) j) = b := by simp [k1, k2, hb]
  rw [this, ev, eu]
  exact ih rv ru hb

theorem range_len {xs ys : List AV} {vs us : Array Value} {h₀ h : Heap} {W : List Addr} (rx : RVs h₀ h W xs vs.toList) (ry : RVs h₀ h W ys us.toList) (f : Nat → Bool) :
    ((List.range (min xs.length ys.length)).all f && xs.length == ys.length) = ((List.range (min vs.size us.size)).all f && vs.size == us.size) := by
  rw [RVs.length rx, RVs.length ry]; simp

theorem eqAt_of {h₀ : Heap} {W : List Addr} {s : Shared} : ∀ (n : Nat) {A : Around} {x y : AV} {v u : Value} {r : Bool}, A.units + n < cLine → RV h₀ s.heap W x v → RV h₀ s.heap W y u → dEq n x y = some r → EqAt A s v u r := by
  intro n
  induction n with
  | zero =>
    intro A x y v u r hu rx ry e
    cases rx with
    | int i t =>
      cases ry with
      | int j t' => simp only [dEq, Option.some.injEq] at e; rw [← e, zEq_iff]; exact EqAt.int_int _ _ _ _
      | str x' t' => simp only [dEq, Option.some.injEq] at e; rw [← e]; exact EqAt.int_str _ _ _ _
      | tup ht rs => simp only [dEq, Option.some.injEq] at e; rw [← e]; exact EqAt.int_tuple _ _ ht (by omega)
      | _ => simp [dEq] at e
    | str i t =>
      cases ry with
      | int j t' => simp only [dEq, Option.some.injEq] at e; rw [← e]; exact EqAt.str_int _ _ _ _
      | str x' t' => simp only [dEq, Option.some.injEq] at e; rw [← e, sEq_beq]; exact EqAt.str_str _ _ _ _
      | tup ht rs => simp only [dEq, Option.some.injEq] at e; rw [← e]; exact EqAt.str_tuple _ _ ht (by omega)
      | _ => simp [dEq] at e
    | bool b =>
      cases ry with
      | bool c =>
        simp only [dEq, Option.some.injEq] at e
        have : r = (b == c) := by rw [← e]; cases b <;> cases c <;> rfl
        rw [this]; exact EqAt.bool_bool _ _
      | _ => simp [dEq] at e
    | tup ht rs =>
      cases ry with
      | int j t' => simp only [dEq, Option.some.injEq] at e; rw [← e]; exact EqAt.tuple_int _ _ ht (by omega)
      | str x' t' => simp only [dEq, Option.some.injEq] at e; rw [← e]; exact EqAt.tuple_str _ _ ht (by omega)
      | _ => simp [dEq] at e
    | _ => simp [dEq] at e
  | succ n ih =>
    intro A x y v u r hu rx ry e
    cases rx with
    | int i t =>
      cases ry with
      | int j t' => simp only [dEq, Option.some.injEq] at e; rw [← e, zEq_iff]; exact EqAt.int_int _ _ _ _
      | str x' t' => simp only [dEq, Option.some.injEq] at e; rw [← e]; exact EqAt.int_str _ _ _ _
      | tup ht rs => simp only [dEq, Option.some.injEq] at e; rw [← e]; exact EqAt.int_tuple _ _ ht (by omega)
      | _ => simp [dEq] at e
    | str i t =>
      cases ry with
      | int j t' => simp only [dEq, Option.some.injEq] at e; rw [← e]; exact EqAt.str_int _ _ _ _
      | str x' t' => simp only [dEq, Option.some.injEq] at e; rw [← e, sEq_beq]; exact EqAt.str_str _ _ _ _
      | tup ht rs => simp only [dEq, Option.some.injEq] at e; rw [← e]; exact EqAt.str_tuple _ _ ht (by omega)
      | _ => simp [dEq] at e
    | bool b =>
      cases ry with
      | bool c =>
        simp only [dEq, Option.some.injEq] at e
        have : r = (b == c) := by rw [← e]; cases b <;> cases c <;> rfl
        rw [this]; exact EqAt.bool_bool _ _
      | _ => simp [dEq] at e
    | tup ht rs =>
      cases ry with
      | int j t' => simp only [dEq, Option.some.injEq] at e; rw [← e]; exact EqAt.tuple_int _ _ ht (by omega)
      | str x' t' => simp only [dEq, Option.some.injEq] at e; rw [← e]; exact EqAt.tuple_str _ _ ht (by omega)
      | @tup ys b us ht' rs' =>
        rename_i xs a vs
        have ez : zipAll (dEq n) xs ys = some r := by simpa [dEq] using e
        by_cases hab : a = b
        · subst hab
          have : r = true := RV.eqSame (n + 1) (.tup ht rs) (.tup ht' rs') e
          subst this
          exact EqAt.same _
        · obtain ⟨ok, hr⟩ := zipAll_some ez
          rw [hr, range_len rs rs']
          refine EqAt.of_refs hab (RcAt.tuples ht ht' (by omega) (pairs_eq rs rs' ok fun rv ru hb => ?_))
          exact ih (A := A.in1) (by show A.units + 1 + n < cLine; omega) rv ru hb
      | _ => simp [dEq] at e
    | _ => simp [dEq] at e
end Mine
end
section
open PySem PySem.W PySem.SeqAt
set_option maxRecDepth 100000
set_option linter.unusedVariables false
namespace Mine

noncomputable def hAV (w : World) : Nat → AV → Int
  | n, .int i => hashInt i
  | n, .str s => hashStr w s
  | n, .tup xs => match n with
    | 0 => 0
    | n + 1 => reduceHash (Builtin.Tuple.tupleHashOf (xs.map (hAV w n)))
  | _, _ => 0
noncomputable def dAV : Nat → AV → Nat
  | n, .int i => 1
  | n, .str s => 1
  | n, .tup xs => match n with
    | 0 => 0
    | n + 1 => (xs.map (dAV n)).sum + 1
  | _, _ => 0

theorem allB_iff {f : AV → Bool} : ∀ {xs : List AV}, allB f xs = true ↔ ∀ x ∈ xs, f x = true
  | [] => by simp [allB]
  | x :: xs => by
    simp only [allB, List.mem_cons, forall_eq_or_imp]
    cases f x with
    | true => simpa using allB_iff (xs := xs)
    | false => simp

section
variable {h₀ h : Heap} {W : List Addr}
theorem dat_shape {n : Nat} {k : AV} {v : Value} (hd : isDat n k = true) (r : RV h₀ h W k v) :
    (∃ i t, k = .int i ∧ v = .int i t) ∨ (∃ x t, k = .str x ∧ v = .str x t) ∨ ∃ m xs a vs, n = m + 1 ∧ k = .tup xs ∧ v = .ref a ∧ h.IsTuple a vs ∧ RVs h₀ h W xs vs.toList ∧ (∀ x ∈ xs, isDat m x = true) := by
  cases r with
  | int i t => exact .inl ⟨i, t, rfl, rfl⟩
  | str x t => exact .inr (.inl ⟨x, t, rfl, rfl⟩)
  | tup ht rs =>
    cases n with
    | zero => simp [isDat] at hd
    | succ m => exact .inr (.inr ⟨m, _, _, _, rfl, rfl, rfl, ht, rs, allB_iff.mp (by simpa [isDat] using hd)⟩)
  | _ => simp [isDat] at hd

theorem RVs.dat {h₀' : Heap} {W' : List Addr} {f : AV → Bool} (ih : ∀ {x : AV} {v : Value}, f x = true → RV h₀ h W x v → RV h₀' h W' x v) :
    ∀ {xs : List AV} {vs : List Value}, (∀ x ∈ xs, f x = true) → RVs h₀ h W xs vs → RVs h₀' h W' xs vs
  | _, _, _, .nil => .nil
  | _, _, hd, .cons r rs => .cons (ih (hd _ (.head _)) r) (RVs.dat ih (fun x hx => hd x (.tail _ hx)) rs)
theorem RV.dat {h₀' : Heap} {W' : List Addr} : ∀ (n : Nat) {k : AV} {v : Value}, isDat n k = true → RV h₀ h W k v → RV h₀' h W' k v := by
  intro n
  induction n with
  | zero =>
    intro k v hd r
    rcases dat_shape hd r with ⟨i, t, rfl, rfl⟩ | ⟨x, t, rfl, rfl⟩ | ⟨m, _, _, _, e, _⟩
    · exact .int i t
    · exact .str x t
    · cases e
  | succ n ih =>
    intro k v hd r
    rcases dat_shape hd r with ⟨i, t, rfl, rfl⟩ | ⟨x, t, rfl, rfl⟩ | ⟨m, xs, a, vs, e, rfl, rfl, ht, rs, hall⟩
    · exact .int i t
    · exact .str x t
    · cases e
      exact .tup ht (RVs.dat (f := isDat n) ih hall rs)

theorem RVs.inj {f : AV → Bool} (ih : ∀ {x y : AV} {v : Value}, f x = true → f y = true → RV h₀ h W x v → RV h₀ h W y v → x = y) :
    ∀ {xs ys : List AV} {vs : List Value}, (∀ x ∈ xs, f x = true) → (∀ x ∈ ys, f x = true) → RVs h₀ h W xs vs → RVs h₀ h W ys vs → xs = ys
  | _, _, _, _, _, .nil, q => by cases q; rfl
  | _, _, _, h1, h2, .cons r rs, q => by
    cases q with
    | cons r' rs' =>
      rw [ih (h1 _ (.head _)) (h2 _ (.head _)) r r', RVs.inj ih (fun x hx => h1 x (.tail _ hx)) (fun x hx => h2 x (.tail _ hx)) rs rs']
theorem RV.inj : ∀ (n : Nat) {x y : AV} {v : Value}, isDat n x = true → isDat n y = true → RV h₀ h W x v → RV h₀ h W y v → x = y := by
  intro n
  induction n with
  | zero =>
    intro x y v hx hy rx ry
    rcases dat_shape hx rx with ⟨i, t, rfl, rfl⟩ | ⟨s, t, rfl, rfl⟩ | ⟨m, _, _, _, e, _⟩
    · rcases dat_shape hy ry with ⟨i', t', rfl, e⟩ | ⟨s', t', rfl, e⟩ | ⟨m, _, _, _, e, _⟩
      · cases e; rfl
      · cases e
      · cases e
    · rcases dat_shape hy ry with ⟨i', t', rfl, e⟩ | ⟨s', t', rfl, e⟩ | ⟨m, _, _, _, e, _⟩
      · cases e
      · cases e; rfl
      · cases e
    · cases e
  | succ n ih =>
    intro x y v hx hy rx ry
    rcases dat_shape hx rx with ⟨i, t, rfl, rfl⟩ | ⟨s, t, rfl, rfl⟩ | ⟨m, xs, a, vs, e, rfl, rfl, ht, rs, hall⟩
    · rcases dat_shape hy ry with ⟨i', t', rfl, e⟩ | ⟨s', t', rfl, e⟩ | ⟨m, xs, a, vs, _, _, e, _⟩
      · cases e; rfl
      · cases e
      · cases e
    · rcases dat_shape hy ry with ⟨i', t', rfl, e⟩ | ⟨s', t', rfl, e⟩ | ⟨m, xs, a, vs, _, _, e, _⟩
      · cases e
      · cases e; rfl
      · cases e
    · cases e
      rcases dat_shape hy ry with ⟨i', t', rfl, e⟩ | ⟨s', t', rfl, e⟩ | ⟨m', ys, a', us, e, rfl, e', ht', rs', hall'⟩
      · cases e
      · cases e
      · cases e
        cases e'
        obtain ⟨o, ho, hc, q, hd⟩ := ht
        obtain ⟨o', ho', hc', q', hd'⟩ := ht'
        rw [ho] at ho'
        cases ho'
        rw [hd] at hd'
        injection hd' with hv
        subst hv
        rw [RVs.inj (f := isDat n) ih hall hall' rs rs']

theorem zipAll_dat {n : Nat} (ih : ∀ {x y : AV}, isDat n x = true → isDat n y = true → ∃ b, dEq n x y = some b ∧ (b = true ↔ x = y)) :
    ∀ {xs ys : List AV}, (∀ x ∈ xs, isDat n x = true) → (∀ x ∈ ys, isDat n x = true) → ∃ b, zipAll (dEq n) xs ys = some b ∧ (b = true ↔ xs = ys)
  | [], [], _, _ => ⟨true, rfl, by simp⟩
  | [], _ :: _, _, _ => ⟨false, rfl, by simp⟩
  | _ :: _, [], _, _ => ⟨false, rfl, by simp⟩
  | x :: xs, y :: ys, h1, h2 => by
    obtain ⟨b, e1, q1⟩ := ih (h1 x (.head _)) (h2 y (.head _))
    obtain ⟨c, e2, q2⟩ := zipAll_dat ih (xs := xs) (ys := ys) (fun x hx => h1 x (.tail _ hx)) (fun x hx => h2 x (.tail _ hx))
    refine ⟨b && c, ?_, ?_⟩
    · simp only [zipAll, e1, e2]; cases b <;> rfl
    · simp only [Bool.and_eq_true, q1, q2, List.cons.injEq]
theorem dEq_dat : ∀ (n : Nat) {x y : AV}, isDat n x = true → isDat n y = true → ∃ b, dEq n x y = some b ∧ (b = true ↔ x = y) := by
  intro n
  induction n with
  | zero =>
    intro x y hx hy
    cases x <;> simp [isDat] at hx <;> cases y <;> simp [isDat] at hy <;> simp [dEq]
    · exact Z.eqB_iff _ _
    · exact sEq_iff
  | succ n ih =>
    intro x y hx hy
    cases x with
    | int a => cases y <;> simp [isDat] at hy <;> simp [dEq]; exact Z.eqB_iff _ _
    | str a => cases y <;> simp [isDat] at hy <;> simp [dEq]; exact sEq_iff
    | tup xs =>
      cases y with
      | tup ys =>
        simp only [isDat, allB_iff] at hx hy
        obtain ⟨b, e, q⟩ := zipAll_dat ih hx hy
        exact ⟨b, by simpa [dEq] using e, by simpa using q⟩
      | int a => simp [dEq]
      | str a => simp [dEq]
      | _ => simp [isDat] at hy
    | _ => simp [isDat] at hx
-- a deeper look says the same
theorem dEq_up : ∀ (n m : Nat) {x y : AV} {b : Bool}, n ≤ m → dEq n x y = some b → dEq m x y = some b := by
  intro n
  induction n with
  | zero =>
    intro m x y b _ e
    cases x with
    | tup xs => cases y <;> first | (simp [dEq] at e; done) | (simpa [dEq] using e)
    | bool b => cases y <;> first | (simp [dEq] at e; done) | (rename_i c; cases b <;> cases c <;> simpa [dEq] using e)
    | int i => cases y <;> first | (simp [dEq] at e; done) | (simpa [dEq] using e)
    | str i => cases y <;> first | (simp [dEq] at e; done) | (simpa [dEq] using e)
    | _ => simp [dEq] at e
  | succ n ih =>
    intro m x y b hm e
    obtain ⟨m, rfl⟩ : ∃ k, m = k + 1 := ⟨m - 1, by omega⟩
    have lists : ∀ {xs ys : List AV} {b : Bool}, zipAll (dEq n) xs ys = some b → zipAll (dEq m) xs ys = some b := by
      intro xs
      induction xs with
      | nil => intro ys b e; cases ys <;> exact e
      | cons x xs ihx =>
        intro ys b e
        cases ys with
        | nil => exact e
        | cons y ys =>
          obtain ⟨u, c, h1, h2, h3⟩ := zipAll_cons e
          simp only [zipAll, ih m (by omega) h1, ihx h2, h3]
          cases u <;> rfl
    cases x with
    | tup xs => cases y <;> first | (simp [dEq] at e; done) | (simp only [dEq] at e ⊢; exact lists e) | (simpa [dEq] using e)
    | bool b => cases y <;> first | (simp [dEq] at e; done) | (rename_i c; cases b <;> cases c <;> simpa [dEq] using e)
    | int i => cases y <;> first | (simp [dEq] at e; done) | (simpa [dEq] using e)
    | str i => cases y <;> first | (simp [dEq] at e; done) | (simpa [dEq] using e)
    | _ => simp [dEq] at e
end

section
variable {prog : Program} {w : World} {h₀ : Heap} {W : List Addr}

theorem hash_items {n : Nat} {A : Around} {E : Value → Shared → Prop}
    (ih : ∀ {k : AV} {v : Value} {s : Shared} {E : Value → Shared → Prop} {Q : Int → Shared → Prop}, isDat n k = true → RV h₀ s.heap W k v → Q (hAV w n k) { s with toks := s.toks + dAV n k } → wpAny (model prog w) A (pyHash v) Q E s)
    (f : Value → Array Int → Sem (ForInStep (Array Int))) (hf : ∀ v b, f v b = (do let y ← pyHash v; pure (.yield (b.push y)))) :
    ∀ {xs : List AV} {vs : List Value} {s : Shared} {b : Array Int} {Q : Array Int → Shared → Prop}, (∀ x ∈ xs, isDat n x = true) → RVs h₀ s.heap W xs vs →
      (∀ c : Array Int, c.toList = b.toList ++ xs.map (hAV w n) → Q c { s with toks := s.toks + (xs.map (dAV n)).sum }) → wpAny (model prog w) A (forIn vs b f) Q E s
  | _, _, s, b, Q, _, .nil, hQ => by rw [List.forIn_nil]; exact wpAny_pure (by simpa using hQ b (by simp))
  | _, _, s, b, Q, hd, .cons r rs, hQ => by
    rw [List.forIn_cons, hf]
    refine wpAny_bind (wpAny_bind (ih (hd _ (.head _)) r (wpAny_pure ?_)))
    refine hash_items ih f hf (fun x hx => hd x (.tail _ hx)) rs fun c hc => ?_
    have := hQ c (by simpa using hc)
    simpa [Nat.add_assoc] using this

theorem hash_dat : ∀ (n : Nat) {A : Around} {k : AV} {v : Value} {s : Shared} {E : Value → Shared → Prop} {Q : Int → Shared → Prop}, A.units + n < cLine → isDat n k = true → RV h₀ s.heap W k v →
    Q (hAV w n k) { s with toks := s.toks + dAV n k } → wpAny (model prog w) A (pyHash v) Q E s := by
  intro n
  induction n with
  | zero =>
    intro A k v s E Q hu hd r hQ
    rcases dat_shape hd r with ⟨i, t, rfl, rfl⟩ | ⟨x, t, rfl, rfl⟩ | ⟨m, _, _, _, e, _⟩
    · exact wpAny_pyHash_int (by simpa [hAV, dAV] using hQ)
    · exact wpAny_pyHash_str (by simpa [hAV, dAV] using hQ)
    · cases e
  | succ n ih =>
    intro A k v s E Q hu hd r hQ
    rcases dat_shape hd r with ⟨i, t, rfl, rfl⟩ | ⟨x, t, rfl, rfl⟩ | ⟨m, xs, a, vs, e, rfl, rfl, ht, rs, hall⟩
    · exact wpAny_pyHash_int (by simpa [hAV, dAV] using hQ)
    · exact wpAny_pyHash_str (by simpa [hAV, dAV] using hQ)
    · cases e
      have hT := ht.typeIs
      obtain ⟨o, ho, hc, q, hdat⟩ := ht
      unfold pyHash
      first | unfold pyHashByItsType | skip
      first | refine wpAny_bind (wpAny_cRoomFor_or (.inr (by omega)) ?_) | skip
      refine wpAny_bind (wpAny_specialOf hT F.slot_tuple_hash.lookup ?_)
      show wpAny _ _ (if (some (Value.builtin "tuple.__hash__") == some Value.none) = true then _ else _) Q E s
      rw [if_neg (by rw [beq_builtin_none]; exact Bool.false_ne_true)]
      refine wpAny_bind (wpAny_specialOf hT F.slot_tuple_hash.lookup ?_)
      show wpAny _ _ (callSpecialIfBoundUnlessNone? (.ref a) "__hash__" _ >>= _) Q E s
      refine wpAny_bind (wpAny_callSpecialIfBoundUnlessNone?_slot hT F.slot_tuple_hash (wpAny_call_entry F.slot_tuple_hash hT F.entry_tuple_hash ?_ (F.args_tuple_hash_1 _)))
      show wpAny _ _ (Builtin.Tuple.tupleItemsOf (.ref a) >>= _) _ _ s
      refine wpAny_bind (wpAny_tupleItemsOf ho hdat ?_)
      refine wpAny_bind ?_
      rw [← Array.forIn_toList]
      refine hash_items (n := n) (A := A.in1) (fun hd' r' q' => ih (A := A.in1) (by show A.units + 1 + n < cLine; omega) hd' r' q') _ (fun v b => by first | rfl | simp) hall rs fun c hc' => ?_
      have hc'' : c.toList = xs.map (hAV w n) := by simpa using hc'
      show wpAny _ _ (retInt (Builtin.Tuple.tupleHashOf c.toList)) _ _ _
      rw [hc'']
      refine wpAny_ret_mkInt ?_
      show wpAny _ _ (if (decide (-(2 : Int) ^ 63 ≤ Builtin.Tuple.tupleHashOf (xs.map (hAV w n))) && decide (Builtin.Tuple.tupleHashOf (xs.map (hAV w n)) < 2 ^ 63)) = true then _ else _) Q E _
      simp only [hAV, dAV] at hQ
      generalize Builtin.Tuple.tupleHashOf (xs.map (hAV w n)) = H at hQ ⊢
      unfold reduceHash at hQ
      by_cases hr : (decide (-(2 : Int) ^ 63 ≤ H) && decide (H < 2 ^ 63)) = true
      · rw [if_pos hr]
        rw [if_pos hr] at hQ
        exact wpAny_pure (by simpa [Nat.add_assoc] using hQ)
      · rw [if_neg hr]
        rw [if_neg hr] at hQ
        exact wpAny_bind (wpAny_rule (wpAny_pure (by simpa [Nat.add_assoc] using hQ)))

theorem quiet_dat : ∀ (n : Nat) {A : Around} {k : AV} {v : Value} {s : Shared} {E : Value → Shared → Prop} {Q : Bool → Shared → Prop}, isDat n k = true → RV h₀ s.heap W k v →
    Q true s → wpAny (model prog w) A (eqIsQuiet n v) Q E s := by
  intro n
  induction n with
  | zero =>
    intro A k v s E Q hd r hQ
    rcases dat_shape hd r with ⟨i, t, rfl, rfl⟩ | ⟨x, t, rfl, rfl⟩ | ⟨m, _, _, _, e, _⟩
    · rw [eqIsQuiet_byValue _ rfl]; exact wpAny_pure hQ
    · rw [eqIsQuiet_byValue _ rfl]; exact wpAny_pure hQ
    · cases e
  | succ n ih =>
    intro A k v s E Q hd r hQ
    rcases dat_shape hd r with ⟨i, t, rfl, rfl⟩ | ⟨x, t, rfl, rfl⟩ | ⟨m, xs, a, vs, e, rfl, rfl, ht, rs, hall⟩
    · rw [eqIsQuiet_byValue _ rfl]; exact wpAny_pure hQ
    · rw [eqIsQuiet_byValue _ rfl]; exact wpAny_pure hQ
    · cases e
      have hT := ht.typeIs
      obtain ⟨o, ho, hc, q, hdat⟩ := ht
      unfold eqIsQuiet
      refine wpAny_bind (wpAny_specialOf hT F.slot_tuple_eq.lookup ?_)
      show wpAny _ _ (isInstance (.ref a) (.type "tuple") >>= _) _ _ s
      refine wpAny_bind (wpAny_isInstance hT isSubtype_tuple_tuple ?_)
      simp only [Bool.not_true, Bool.false_eq_true, if_false]
      refine wpAny_bind (wpAny_seqItems ho hdat ?_)
      refine wpAny_bind ?_
      show wpAny _ _ (forIn vs _ _) _ _ s
      rw [← Array.forIn_toList]
      refine wpAny_forIn_list _ (fun rest r s' => r.1 = none ∧ s' = s ∧ ∃ ys, (∀ x ∈ ys, isDat n x = true) ∧ RVs h₀ s.heap W ys rest) _ ?_ ?_ _ _ ⟨rfl, rfl, xs, hall, rs⟩
      · rintro v rest r s' ⟨hr, rfl, ys, hys, rys⟩
        cases rys with
        | cons ry rys =>
          refine wpAny_bind (ih (hys _ (.head _)) ry ?_)
          simp only [Bool.not_true, Bool.false_eq_true, if_false]
          exact wpAny_pure ⟨rfl, rfl, _, fun x hx => hys x (.tail _ hx), rys⟩
      · rintro ⟨r1, r2⟩ s' ⟨hr, rfl, _⟩
        simp only at hr
        subst hr
        exact wpAny_pure hQ
end

open Classical in
noncomputable def datKind (prog : Program) (w : World) : HeapKind prog w AV where
  is := fun h k a => (∃ xs, k = .tup xs) ∧ isDat 8 k = true ∧ RV h h [] k (.ref a)
  hash := hAV w 8
  draws := dAV 8
  room := fun A => A.units + 10 < cLine
  inj := fun hx hy => RV.inj 8 hx.2.1 hy.2.1 hx.2.2 hy.2.2
  keeps := fun {h h' k a d o es ep} x ho hd hs => ⟨x.1, x.2.1, RV.dat 8 x.2.1 (RV.keep (h₀ := h) (W' := []) (P := fun b => b = d) (fun b o' hb e => (hs.2 b hb).trans e)
    (fun b o' hb e => by subst hb; rw [ho] at e; cases e; exact soft_ni (soft_dict hd)) (fun i a e => e) x.2.2)⟩
  pyHash := fun hu hk h => hash_dat 8 (by omega) hk.2.1 hk.2.2 h
  eqBool := fun {A E s x y a b Q} hu hx hy h => by
    obtain ⟨r, e, q⟩ := dEq_dat 8 hx.2.1 hy.2.1
    refine eqAt_of 8 (by omega) hx.2.2 hy.2.2 e prog w E Q ?_
    have : r = decide (x = y) := by
      by_cases hxy : x = y
      · rw [decide_eq_true hxy]; exact q.mpr hxy
      · rw [decide_eq_false hxy]
        cases r with
        | true => exact absurd (q.mp rfl) hxy
        | false => rfl
    rw [this]; exact h
  quiet := fun hk h => quiet_dat 8 hk.2.1 hk.2.2 h
end Mine
end
section
open PySem PySem.W PySem.SeqAt
set_option maxRecDepth 100000
set_option linter.unusedVariables false
namespace Mine

section
variable (prog : Program) (w : World) (h₀ : Heap)

noncomputable def DS (h : Heap) (W : List Addr) (es : List (AV × AV)) (a : Addr) : Prop :=
  ∃ kvs : List (Str × Value), h.DictOf (strKind prog w) a kvs ∧ es.map (·.1) = kvs.map (fun p => AV.str p.1) ∧ RVs h₀ h W (es.map (·.2)) (kvs.map (·.2))
open Classical in
noncomputable def DD (h : Heap) (W : List Addr) (es : List (AV × AV)) (a : Addr) : Prop :=
  ∃ xs : List (AV × Addr × Value), h.DictOfH (datKind prog w) a xs ∧ es.map (·.1) = xs.map (·.1) ∧ RVs h₀ h W (es.map (·.2)) (xs.map (·.2.2))
noncomputable def RC (h : Heap) (W : List Addr) : Body → Addr → Prop
  | .list xs, a => ∃ vs, h.PlainList a vs ∧ RVs h₀ h W xs vs.toList
  | .dict es, a => DS prog w h₀ h W es a ∨ DD prog w h₀ h W es a
  | .hid, a => ∃ o, h.get? a = some o ∧ soft o = true

structure SR (h : Heap) (W : List Addr) (σ : Sto) : Prop where
  n : W.length = σ.n
  cs : σ.cs.length = σ.n
  cell : ∀ (i : Nat) (a : Addr) (c : Cell), W[i]? = some a → σ.get i = some c → RC prog w h₀ h W c.body a
  nd : W.Nodup
  ab : ∀ a ∈ W, h₀.get? a = none
  old : ∀ b o, h₀.get? b = some o → h.get? b = some o
end

structure Stp (F : Addr → Prop) (h : Heap) (W : List Addr) (σ : Sto) (h' : Heap) (W' : List Addr) (σ' : Sto) : Prop where
  ext : ∃ X, W' = W ++ X ∧ ∀ a ∈ X, h.get? a = none
  keep : ∀ b o, b ∉ W → ¬ F b → h.get? b = some o → h'.get? b = some o
  live : ∀ b o, h.get? b = some o → ∃ o', h'.get? b = some o'
  ver : ∀ (i : Nat) (c : Cell), σ.get i = some c → ∃ c', σ'.get i = some c' ∧ c.ver ≤ c'.ver ∧ (c.ver = c'.ver → c' = c ∧ ∀ a, W[i]? = some a → h'.get? a = h.get? a)

abbrev NoF : Addr → Prop := fun _ => False
noncomputable def frF (env : Env) : Addr → Prop := fun b => b = env.locals ∨ ∃ x, env.cells.lookup x = some b

theorem Stp.refl (F : Addr → Prop) (h : Heap) (W : List Addr) (σ : Sto) : Stp F h W σ h W σ :=
  ⟨⟨[], by simp, by simp⟩, fun _ _ _ _ e => e, fun _ o e => ⟨o, e⟩, fun i c e => ⟨c, e, Nat.le_refl _, fun _ => ⟨rfl, fun _ _ => rfl⟩⟩⟩

section
variable {prog : Program} {w : World} {h₀ h h' : Heap} {W W' : List Addr} {σ σ' : Sto} {F : Addr → Prop}

theorem Sto.get_eq {i : Nat} (hi : i < σ.n) : σ.get i = σ.cs[σ.n - 1 - i]? := by
  unfold Sto.get
  have : Nat.blt i σ.n = true := Nat.ble_eq_true_of_le hi
  rw [this, nth_eq]
theorem Sto.get_lt {i : Nat} {c : Cell} (e : σ.get i = some c) : i < σ.n := by
  unfold Sto.get at e
  cases q : Nat.blt i σ.n with
  | true => exact Nat.le_of_ble_eq_true q
  | false => rw [q] at e; cases e
theorem SR.get (R : SR prog w h₀ h W σ) {i : Nat} {a : Addr} (e : W[i]? = some a) : ∃ c, σ.get i = some c := by
  have hi : i < σ.n := by rw [← R.n]; exact (List.getElem?_eq_some_iff.mp e).1
  rw [Sto.get_eq hi]
  have : σ.n - 1 - i < σ.cs.length := by rw [R.cs]; omega
  exact ⟨_, List.getElem?_eq_getElem this⟩
theorem SR.at (R : SR prog w h₀ h W σ) {i : Nat} {c : Cell} (e : σ.get i = some c) : ∃ a, W[i]? = some a ∧ RC prog w h₀ h W c.body a := by
  have hi : i < W.length := by rw [R.n]; exact Sto.get_lt e
  exact ⟨_, List.getElem?_eq_getElem hi, R.cell i _ c (List.getElem?_eq_getElem hi) e⟩
theorem RC.obj {b : Body} {a : Addr} (r : RC prog w h₀ h W b a) : ∃ o, h.get? a = some o ∧ soft o = true := by
  cases b with
  | list xs => obtain ⟨vs, ⟨n, ho⟩, _⟩ := r; exact ⟨_, ho, soft_list rfl rfl⟩
  | dict es =>
    rcases r with ⟨kvs, ⟨o, es, ep, ho, _, hd, _⟩, _⟩ | ⟨xs, ⟨o, es, ep, ho, _, hd, _⟩, _⟩
    · exact ⟨o, ho, soft_dict hd⟩
    · exact ⟨o, ho, soft_dict hd⟩
  | hid => exact r
theorem SR.obj (R : SR prog w h₀ h W σ) {a : Addr} (m : a ∈ W) : ∃ o, h.get? a = some o ∧ soft o = true := by
  obtain ⟨i, e⟩ := List.mem_iff_getElem?.mp m
  obtain ⟨c, ec⟩ := R.get e
  exact (R.cell i a c e ec).obj
theorem SR.soft (R : SR prog w h₀ h W σ) {b : Addr} {o : Obj} (m : b ∈ W) (e : h.get? b = some o) : soft o = true := by
  obtain ⟨o', e', q⟩ := R.obj m
  rw [e] at e'; cases e'; exact q
theorem SR.ni (R : SR prog w h₀ h W σ) : NI (fun b => b ∈ W) h := fun b o m e => soft_ni (R.soft m e)
theorem SR.lt (R : SR prog w h₀ h W σ) {a : Addr} (m : a ∈ W) : a < h.objs.size := by
  obtain ⟨o, e, _⟩ := R.obj m
  exact Heap.lt_size e

theorem Stp.mem (S : Stp F h W σ h' W' σ') {i : Nat} {a : Addr} (e : W[i]? = some a) : W'[i]? = some a := by
  obtain ⟨X, rfl, _⟩ := S.ext
  rw [List.getElem?_append_left (List.getElem?_eq_some_iff.mp e).1]; exact e
theorem Stp.sub (S : Stp F h W σ h' W' σ') {a : Addr} (m : a ∈ W) : a ∈ W' := by
  obtain ⟨X, rfl, _⟩ := S.ext
  exact List.mem_append_left _ m
theorem Stp.newer (S : Stp F h W σ h' W' σ') {a : Addr} {o : Obj} (e : h.get? a = some o) (m : a ∉ W) : a ∉ W' := by
  obtain ⟨X, rfl, hX⟩ := S.ext
  intro m'
  rcases List.mem_append.mp m' with m' | m'
  · exact m m'
  · rw [hX _ m'] at e; cases e
theorem Stp.fresh (S : Stp F h W σ h' W' σ') {a : Addr} (e : h'.get? a = none) : h.get? a = none := by
  cases q : h.get? a with
  | none => rfl
  | some o => obtain ⟨o', e'⟩ := S.live a o q; rw [e] at e'; cases e'
theorem Stp.trans {h'' : Heap} {W'' : List Addr} {σ'' : Sto} (S : Stp F h W σ h' W' σ') (S' : Stp F h' W' σ' h'' W'' σ'') : Stp F h W σ h'' W'' σ'' := by
  refine ⟨?_, fun b o m f e => S'.keep b o (S.newer e m) f (S.keep b o m f e), fun b o e => ?_, fun i c e => ?_⟩
  · obtain ⟨X, rfl, hX⟩ := S.ext
    obtain ⟨Y, rfl, hY⟩ := S'.ext
    refine ⟨X ++ Y, by simp, fun a m => ?_⟩
    rcases List.mem_append.mp m with m | m
    · exact hX a m
    · exact S.fresh (hY a m)
  · obtain ⟨o', e'⟩ := S.live b o e
    exact S'.live b o' e'
  · obtain ⟨c', e', l', q'⟩ := S.ver i c e
    obtain ⟨c'', e'', l'', q''⟩ := S'.ver i c' e'
    refine ⟨c'', e'', Nat.le_trans l' l'', fun q => ?_⟩
    have h1 : c.ver = c'.ver := by omega
    have h2 : c'.ver = c''.ver := by omega
    refine ⟨(q'' h2).1.trans (q' h1).1, fun a ea => ?_⟩
    rw [(q'' h2).2 a (S.mem ea), (q' h1).2 a ea]
theorem Stp.weak {F' : Addr → Prop} (S : Stp F h W σ h' W' σ') (hf : ∀ b, F b → F' b) : Stp F' h W σ h' W' σ' :=
  ⟨S.ext, fun b o m f e => S.keep b o m (fun q => f (hf b q)) e, S.live, S.ver⟩
theorem Stp.no (S : Stp NoF h W σ h' W' σ') (F : Addr → Prop) : Stp F h W σ h' W' σ' := S.weak fun _ f => f.elim

theorem RV.stp (S : Stp F h W σ h' W' σ') (R : SR prog w h₀ h W σ) (nf : NI F h) {x : AV} {v : Value} (r : RV h₀ h W x v) : RV h₀ h' W' x v :=
  RV.keep (P := fun b => b ∈ W ∨ F b) (fun b o p e => S.keep b o (fun m => p (.inl m)) (fun f => p (.inr f)) e)
    (fun b o p e => p.elim (fun m => R.ni b o m e) fun f => nf b o f e) (fun i a e => S.mem e) r
theorem RVs.stp (S : Stp F h W σ h' W' σ') (R : SR prog w h₀ h W σ) (nf : NI F h) {x : List AV} {v : List Value} (r : RVs h₀ h W x v) : RVs h₀ h' W' x v :=
  RVs.keep (P := fun b => b ∈ W ∨ F b) (fun b o p e => S.keep b o (fun m => p (.inl m)) (fun f => p (.inr f)) e)
    (fun b o p e => p.elim (fun m => R.ni b o m e) fun f => nf b o f e) (fun i a e => S.mem e) r
theorem niNo (h : Heap) : NI NoF h := fun _ _ f => f.elim

theorem RC.keep {P : Addr → Prop} (k : Keep P h h') (n : NI P h) (hW : ∀ (i : Nat) (a : Addr), W[i]? = some a → W'[i]? = some a) {b : Body} {a : Addr} (e : h'.get? a = h.get? a)
    (r : RC prog w h₀ h W b a) : RC prog w h₀ h' W' b a := by
  cases b with
  | list xs => obtain ⟨vs, ⟨m, ho⟩, rs⟩ := r; exact ⟨vs, ⟨m, e.trans ho⟩, RVs.keep k n hW rs⟩
  | dict es =>
    rcases r with ⟨kvs, ⟨o, es, ep, ho, q⟩, hk, rs⟩ | ⟨xs, ⟨o, es, ep, ho, q1, q2, q3, q4, q5⟩, hk, rs⟩
    · exact .inl ⟨kvs, ⟨o, es, ep, e.trans ho, q⟩, hk, RVs.keep k n hW rs⟩
    · refine .inr ⟨xs, ⟨o, es, ep, e.trans ho, q1, q2, q3, fun x hx => ?_, q5⟩, hk, RVs.keep k n hW rs⟩
      obtain ⟨h1, h2, h3⟩ := q4 x hx
      exact ⟨h1, h2, RV.dat 8 h2 (RV.keep (W' := []) k n (fun _ _ e => e) h3)⟩
  | hid => obtain ⟨o, ho, q⟩ := r; exact ⟨o, e.trans ho, q⟩

-- nothing of the store turned; the heap grew, or turned beside it
theorem SR.grow (R : SR prog w h₀ h W σ) (nf : NI F h) (k : ∀ b o, ¬ F b → h.get? b = some o → h'.get? b = some o) (lv : ∀ b o, F b → h.get? b = some o → ∃ o', h'.get? b = some o') (fW : ∀ a ∈ W, ¬ F a) (fo : ∀ b, F b → h₀.get? b = none) :
    SR prog w h₀ h' W σ ∧ Stp F h W σ h' W σ := by
  have same : ∀ a ∈ W, h'.get? a = h.get? a := fun a m => by
    obtain ⟨o, e, _⟩ := R.obj m
    rw [e]; exact k a o (fW a m) e
  refine ⟨⟨R.n, R.cs, fun i a c e ec => RC.keep (P := F) k nf (fun _ _ e => e) (same a (List.mem_of_getElem? e)) (R.cell i a c e ec), R.nd, R.ab, fun b o e => k b o ?_ (R.old b o e)⟩,
    ⟨⟨[], by simp, by simp⟩, fun b o _ f e => k b o f e, fun b o e => ?_, fun i c e => ⟨c, e, Nat.le_refl _, fun _ => ⟨rfl, fun a ea => same a (List.mem_of_getElem? ea)⟩⟩⟩⟩
  · exact fun f => by rw [fo b f] at e; cases e
  · by_cases f : F b
    · exact lv b o f e
    · exact ⟨o, k b o f e⟩
theorem SR.grow0 (R : SR prog w h₀ h W σ) (k : ∀ b o, h.get? b = some o → h'.get? b = some o) : SR prog w h₀ h' W σ ∧ Stp NoF h W σ h' W σ :=
  R.grow (F := NoF) (niNo h) (fun b o _ e => k b o e) (fun _ _ f => f.elim) (fun _ _ f => f) (fun _ f => f.elim)

theorem Sto.new_get (b : Body) (i : Nat) : (σ.new b).get i = if i = σ.n then some ⟨b, 0⟩ else σ.get i := by
  by_cases e : i = σ.n
  · subst e
    rw [if_pos rfl, Sto.get_eq (by simp [Sto.new])]
    simp [Sto.new]
  · rw [if_neg e]
    by_cases hi : i < σ.n
    · rw [Sto.get_eq (σ := σ.new b) (by simp only [Sto.new]; omega), Sto.get_eq hi]
      have : (σ.new b).n - 1 - i = (σ.n - 1 - i) + 1 := by simp only [Sto.new]; omega
      rw [this]
      simp [Sto.new]
    · have h1 : (σ.new b).get i = none := by
        unfold Sto.get
        have : Nat.blt i (σ.new b).n = false := by
          cases q : Nat.blt i (σ.new b).n with
          | false => rfl
          | true =>
            have h2 : i < (σ.new b).n := Nat.le_of_ble_eq_true q
            simp only [Sto.new] at h2
            omega
        rw [this]
      have h2 : σ.get i = none := by
        cases q : σ.get i with
        | none => rfl
        | some c => exact absurd (Sto.get_lt q) hi
      rw [h1, h2]

-- a new cell
theorem SR.new (R : SR prog w h₀ h W σ) (k : ∀ b o, h.get? b = some o → h'.get? b = some o) {a : Addr} {b : Body} (hl : h.get? a = none)
    (hc : RC prog w h₀ h' (W ++ [a]) b a) : SR prog w h₀ h' (W ++ [a]) (σ.new b) ∧ Stp NoF h W σ h' (W ++ [a]) (σ.new b) := by
  have same : ∀ x ∈ W, h'.get? x = h.get? x := fun x m => by
    obtain ⟨o, e, _⟩ := R.obj m
    rw [e]; exact k x o e
  have hn : a ∉ W := fun m => by
    obtain ⟨o, e, _⟩ := R.obj m
    rw [hl] at e; cases e
  have h0 : h₀.get? a = none := by
    cases q : h₀.get? a with
    | none => rfl
    | some o => rw [R.old a o q] at hl; cases hl
  refine ⟨⟨by simp [Sto.new, R.n], by simp [Sto.new, R.cs], fun i x c e ec => ?_, ?_, ?_, fun x o e => k x o (R.old x o e)⟩,
    ⟨⟨[a], rfl, by simpa using hl⟩, fun x o _ _ e => k x o e, fun x o e => ⟨o, k x o e⟩, fun i c e => ⟨c, ?_, Nat.le_refl _, fun _ => ⟨rfl, fun x ex => same x (List.mem_of_getElem? ex)⟩⟩⟩⟩
  · rw [Sto.new_get] at ec
    by_cases hi : i = σ.n
    · subst hi
      rw [if_pos rfl] at ec
      cases ec
      have : (W ++ [a])[σ.n]? = some a := by rw [← R.n]; simp
      rw [this] at e; cases e
      exact hc
    · rw [if_neg hi] at ec
      have hlt : i < W.length := by rw [R.n]; exact Sto.get_lt ec
      rw [List.getElem?_append_left hlt] at e
      exact RC.keep (P := NoF) (fun b o _ e => k b o e) (niNo h) (fun j y ey => by rw [List.getElem?_append_left (List.getElem?_eq_some_iff.mp ey).1]; exact ey) (same x (List.mem_of_getElem? e)) (R.cell i x c e ec)
  · rw [List.nodup_append]
    refine ⟨R.nd, by simp, fun x hx y hy => ?_⟩
    simp only [List.mem_singleton] at hy
    subst hy
    exact fun e => hn (e ▸ hx)
  · intro x m
    rcases List.mem_append.mp m with m | m
    · exact R.ab x m
    · simp only [List.mem_singleton] at m
      subst m
      exact h0
  · rw [Sto.new_get, if_neg (Nat.ne_of_lt (Sto.get_lt e))]; exact e

theorem Sto.put_get {i : Nat} {c : Cell} (b : Body) (e : σ.get i = some c) (hl : σ.cs.length = σ.n) (j : Nat) : (σ.put i b).get j = if j = i then some ⟨b, c.ver + 1⟩ else σ.get j := by
  have hi := Sto.get_lt e
  have ec : σ.cs[σ.n - 1 - i]? = some c := by rw [← Sto.get_eq hi]; exact e
  have hp : σ.put i b = ⟨σ.n, σ.cs.set (σ.n - 1 - i) ⟨b, c.ver + 1⟩⟩ := by
    simp only [Sto.put, nth_eq, ec, setNth_eq]
  rw [hp]
  by_cases hj : j < σ.n
  · rw [Sto.get_eq (σ := ⟨σ.n, σ.cs.set (σ.n - 1 - i) ⟨b, c.ver + 1⟩⟩) hj, Sto.get_eq hj]
    by_cases q : j = i
    · subst q
      rw [if_pos rfl]
      simp only [List.getElem?_set]
      have : σ.n - 1 - j < σ.cs.length := by rw [hl]; omega
      simp [this]
    · rw [if_neg q]
      simp only [List.getElem?_set]
      have : σ.n - 1 - i ≠ σ.n - 1 - j := by omega
      simp [this]
  · have q : j ≠ i := fun q => hj (q ▸ hi)
    rw [if_neg q]
    have h1 : Nat.blt j σ.n = false := by
      cases q : Nat.blt j σ.n with
      | false => rfl
      | true => exact absurd (Nat.le_of_ble_eq_true q) hj
    unfold Sto.get
    rw [h1]

-- a cell turned
theorem SR.putK (R : SR prog w h₀ h W σ) {i : Nat} {a : Addr} {c : Cell} {b : Body} (ea : W[i]? = some a) (ec : σ.get i = some c) (keep : ∀ b o, b ≠ a → h.get? b = some o → h'.get? b = some o) (hc : RC prog w h₀ h' W b a) :
    SR prog w h₀ h' W (σ.put i b) ∧ Stp NoF h W σ h' W (σ.put i b) := by
  have ma : a ∈ W := List.mem_of_getElem? ea
  have same : ∀ x ∈ W, x ≠ a → h'.get? x = h.get? x := fun x m q => by
    obtain ⟨o, e, _⟩ := R.obj m
    rw [e]; exact keep x o q e
  have other : ∀ (j : Nat) (x : Addr), W[j]? = some x → j ≠ i → x ≠ a := fun j x ex hj e => by
    subst e
    exact hj ((List.getElem?_inj (List.getElem?_eq_some_iff.mp ex).1 R.nd).mp (ex.trans ea.symm))
  refine ⟨⟨?_, ?_, fun j x d ex ed => ?_, R.nd, R.ab, fun x o e => keep x o ?_ (R.old x o e)⟩, ⟨⟨[], by simp, by simp⟩, fun x o m _ e => keep x o (fun q => m (q ▸ ma)) e, fun x o e => ?_, fun j d ed => ?_⟩⟩
  · show W.length = σ.n; exact R.n
  · unfold Sto.put
    show (match nth σ.cs (σ.n - 1 - i) with | some c => setNth σ.cs (σ.n - 1 - i) ⟨b, c.ver + 1⟩ | none => σ.cs).length = σ.n
    cases nth σ.cs (σ.n - 1 - i) with
    | none => exact R.cs
    | some c => simp only [setNth_eq, List.length_set]; exact R.cs
  · rw [Sto.put_get b ec R.cs] at ed
    by_cases q : j = i
    · subst q
      rw [if_pos rfl] at ed
      cases ed
      rw [ea] at ex; cases ex
      exact hc
    · rw [if_neg q] at ed
      exact RC.keep (P := fun b => b = a) keep (fun b o q e => by subst q; exact R.ni b o ma e) (fun _ _ e => e) (same x (List.mem_of_getElem? ex) (other j x ex q)) (R.cell j x d ex ed)
  · intro q
    subst q
    rw [R.ab x ma] at e; cases e
  · by_cases q : x = a
    · subst q
      obtain ⟨o', e', _⟩ := hc.obj
      exact ⟨o', e'⟩
    · exact ⟨o, keep x o q e⟩
  · rw [Sto.put_get b ec R.cs]
    by_cases q : j = i
    · subst q
      rw [ec] at ed; cases ed
      refine ⟨⟨b, c.ver + 1⟩, by rw [if_pos rfl], Nat.le_succ _, fun q => absurd q (Nat.ne_of_lt (Nat.lt_succ_self _))⟩
    · exact ⟨d, by rw [if_neg q]; exact ed, Nat.le_refl _, fun _ => ⟨rfl, fun x ex => same x (List.mem_of_getElem? ex) (other j x ex q)⟩⟩
theorem SR.put (R : SR prog w h₀ h W σ) {i : Nat} {a : Addr} {c : Cell} {b : Body} (ea : W[i]? = some a) (ec : σ.get i = some c) (hs : Heap.SameBut a h h') (hc : RC prog w h₀ h' W b a) :
    SR prog w h₀ h' W (σ.put i b) ∧ Stp NoF h W σ h' W (σ.put i b) := R.putK ea ec (fun b o q e => (hs.2 b q).trans e) hc
end

structure AOk (A : Around) (d : Nat) : Prop where
  hd : A.handled = none
  un : A.units + 60 * (d + 1) < cLine
  dp : A.depth + 2 * (d + 1) < recursionLimit

structure FrOk (h₀ : Heap) (env : Env) (sc : List (Str × NameKind)) (ρ : Rho) (h : Heap) (W : List Addr) : Prop where
  kind : env.scope.kind = .function
  glob : env.globals = mainGlobals
  bi : env.builtins = builtinsNs
  ns : ∃ m, h.Ns env.locals m ∧ ∀ x v, lk ρ x = some v → env.kindOf x = some .local → ∃ val, m x = some val ∧ RV h₀ h W v val
  cell : ∀ x v, lk ρ x = some v → env.kindOf x ≠ some .local → (env.kindOf x = some .cell ∨ env.kindOf x = some .free) ∧ ∃ c val, env.cells.lookup x = some c ∧ h.IsCell c (some val) ∧ RV h₀ h W v val
  gi : ∀ x, kindIn sc x = some .globalImplicit → env.kindOf x = some .globalImplicit
  lo : ∀ x, kindIn sc x = some .local → env.kindOf x = some .local
  ce : ∀ x, kindIn sc x = some .cell → env.kindOf x = some .cell ∧ ∃ c v, env.cells.lookup x = some c ∧ h.IsCell c v
  fr : ∀ x, kindIn sc x = some .free → (env.kindOf x = some .cell ∨ env.kindOf x = some .free) ∧ ∃ c v, env.cells.lookup x = some c ∧ h.IsCell c v
  ap : env.cells.Pairwise fun x y => x.2 ≠ y.2
  cl : ∀ x c, env.cells.lookup x = some c → c ≠ env.locals ∧ c ∉ W ∧ h₀.get? c = none ∧ ∃ v, h.IsCell c v
  lW : env.locals ∉ W
  l0 : h₀.get? env.locals = none

section
variable {prog : Program} {w : World} {h₀ h h' : Heap} {W W' : List Addr} {σ σ' : Sto} {env : Env} {sc : List (Str × NameKind)} {ρ : Rho}

theorem FrOk.soft (f : FrOk h₀ env sc ρ h W) {b : Addr} {o : Obj} (p : frF env b) (e : h.get? b = some o) : soft o = true := by
  rcases p with rfl | ⟨x, m⟩
  · obtain ⟨m, ⟨o', es, ep, ho, hd, _⟩, _⟩ := f.ns
    rw [e] at ho; cases ho
    exact soft_dict hd
  · obtain ⟨_, _, _, v, o', ho, hd⟩ := f.cl x b m
    rw [e] at ho; cases ho
    exact soft_cell hd
theorem FrOk.niF (f : FrOk h₀ env sc ρ h W) : NI (frF env) h := fun b o p e => soft_ni (f.soft p e)
theorem FrOk.fW (f : FrOk h₀ env sc ρ h W) : ∀ a ∈ W, ¬ frF env a := fun a m p => by
  rcases p with rfl | ⟨x, q⟩
  · exact f.lW m
  · exact (f.cl x a q).2.1 m
theorem FrOk.f0 (f : FrOk h₀ env sc ρ h W) : ∀ b, frF env b → h₀.get? b = none := fun b p => by
  rcases p with rfl | ⟨x, q⟩
  · exact f.l0
  · exact (f.cl x b q).2.2.1
theorem FrOk.hereL (f : FrOk h₀ env sc ρ h W) : ∃ o, h.get? env.locals = some o := by
  obtain ⟨m, ⟨o, es, ep, e, _⟩, _⟩ := f.ns; exact ⟨o, e⟩
theorem FrOk.hereC (f : FrOk h₀ env sc ρ h W) {x : Str} {c : Addr} (m : env.cells.lookup x = some c) : ∃ o, h.get? c = some o := by
  obtain ⟨_, _, _, v, o, e, _⟩ := f.cl x c m; exact ⟨o, e⟩
theorem FrOk.here (f : FrOk h₀ env sc ρ h W) {b : Addr} (p : frF env b) : ∃ o, h.get? b = some o := by
  rcases p with rfl | ⟨x, m⟩
  · exact f.hereL
  · exact f.hereC m

-- an expression leaves the frame as it is
theorem FrOk.stp (f : FrOk h₀ env sc ρ h W) (R : SR prog w h₀ h W σ) (S : Stp NoF h W σ h' W' σ') : FrOk h₀ env sc ρ h' W' := by
  have old : ∀ b o, b ∉ W → h.get? b = some o → h'.get? b = some o := fun b o m e => S.keep b o m (fun q => q) e
  have cell : ∀ {x : Str} {c : Addr} {v : Option Value}, env.cells.lookup x = some c → h.IsCell c v → h'.IsCell c v := fun {x c v} m q => by
    obtain ⟨o, ho, hd⟩ := q
    exact ⟨o, old c o (f.cl x c m).2.1 ho, hd⟩
  refine ⟨f.kind, f.glob, f.bi, ?_, fun x v e k => ?_, f.gi, f.lo, fun x e => ?_, fun x e => ?_, f.ap, fun x c m => ?_, S.newer f.hereL.choose_spec f.lW, f.l0⟩
  · obtain ⟨m, ⟨o, es, ep, ho, q⟩, hm⟩ := f.ns
    refine ⟨m, ⟨o, es, ep, old _ o f.lW ho, q⟩, fun x v e k => ?_⟩
    obtain ⟨val, h1, h2⟩ := hm x v e k
    exact ⟨val, h1, RV.stp S R (niNo h) h2⟩
  · obtain ⟨h1, c, val, h2, h3, h4⟩ := f.cell x v e k
    exact ⟨h1, c, val, h2, cell h2 h3, RV.stp S R (niNo h) h4⟩
  · obtain ⟨h1, c, v, h2, h3⟩ := f.ce x e
    exact ⟨h1, c, v, h2, cell h2 h3⟩
  · obtain ⟨h1, c, v, h2, h3⟩ := f.fr x e
    exact ⟨h1, c, v, h2, cell h2 h3⟩
  · obtain ⟨h1, h2, h3, v, h4⟩ := f.cl x c m
    exact ⟨h1, S.newer (f.hereC m).choose_spec h2, h3, v, cell m h4⟩
end

section
variable (prog : Program) (w : World) (h₀ : Heap)

noncomputable def Gives (F : Addr → Prop) (W : List Addr) (σ : Sto) (s : Shared) (A : Around) (t : Sem Value) (v : AV) (σ' : Sto) : Prop :=
  ∀ (E Q : Value → Shared → Prop), (∀ h' tk W' val, Stp F s.heap W σ h' W' σ' → SR prog w h₀ h' W' σ' → RV h₀ h' W' v val → Q val { s with heap := h', toks := tk }) → wpAny (model prog w) A t Q E s
noncomputable def GivesB (F : Addr → Prop) (W : List Addr) (σ : Sto) (s : Shared) (A : Around) (t : Sem Bool) (b : Bool) (σ' : Sto) : Prop :=
  ∀ (E : Value → Shared → Prop) (Q : Bool → Shared → Prop), (∀ h' tk W', Stp F s.heap W σ h' W' σ' → SR prog w h₀ h' W' σ' → Q b { s with heap := h', toks := tk }) → wpAny (model prog w) A t Q E s
noncomputable def FlV (h : Heap) (W : List Addr) : Fl → Flow → Prop
  | .next, .next => True
  | .ret v, .ret val => RV h₀ h W v val
  | _, _ => False
noncomputable def GivesF (env : Env) (sc : List (Str × NameKind)) (W : List Addr) (σ : Sto) (s : Shared) (A : Around) (t : Sem Flow) (f : Fl) (ρ' : Rho) (σ' : Sto) : Prop :=
  ∀ (E : Value → Shared → Prop) (Q : Flow → Shared → Prop), (∀ h' tk W' fl, Stp (frF env) s.heap W σ h' W' σ' → SR prog w h₀ h' W' σ' → FrOk h₀ env sc ρ' h' W' → FlV h₀ h' W' f fl → Q fl { s with heap := h', toks := tk }) →
    wpAny (model prog w) A t Q E s

noncomputable def EvS (ev : Cx → Rho → Sto → Expr → Option (AV × Sto)) : Prop :=
  ∀ c ρ σ e v σ', ev c ρ σ e = some (v, σ') → ∀ A env s W, AOk A c.d → FrOk h₀ env c.sc ρ s.heap W → SR prog w h₀ s.heap W σ → Gives prog w h₀ NoF W σ s A (eval e env) v σ'
noncomputable def TrS (tr : Cx → Rho → Sto → Expr → Option (Bool × Sto)) : Prop :=
  ∀ c ρ σ e b σ', tr c ρ σ e = some (b, σ') → ∀ A env s W, AOk A c.d → FrOk h₀ env c.sc ρ s.heap W → SR prog w h₀ s.heap W σ → GivesB prog w h₀ NoF W σ s A (isTrue e env (eval e env)) b σ'
noncomputable def ExS (ex : Cx → Rho → Sto → List Stmt → Option (Fl × Rho × Sto)) : Prop :=
  ∀ c ρ σ b f ρ' σ', ex c ρ σ b = some (f, ρ', σ') → ∀ A env s W, AOk A c.d → FrOk h₀ env c.sc ρ s.heap W → SR prog w h₀ s.heap W σ → GivesF prog w h₀ env c.sc W σ s A (execs b env) f ρ' σ'
end
end Mine
end
section
open PySem PySem.W PySem.SeqAt PyProof.Rows
set_option maxRecDepth 100000
set_option linter.unusedVariables false
namespace Mine

section
variable {prog : Program} {w : World} {h₀ : Heap} {W : List Addr} {σ : Sto} {s : Shared} {A : Around}

theorem Gives.pure {t : Sem Value} {v : AV} (R : SR prog w h₀ s.heap W σ) (h : ∀ (E Q : Value → Shared → Prop), (∀ tk val, RV h₀ s.heap W v val → Q val { s with toks := tk }) → wpAny (model prog w) A t Q E s) :
    Gives prog w h₀ NoF W σ s A t v σ := fun E Q hQ => h E Q fun tk val r => hQ s.heap tk W val (Stp.refl _ _ _ _) R r

theorem top_none (h : Heap) : h.get? h.objs.size = none := by
  cases q : h.get? h.objs.size with
  | none => rfl
  | some o => exact absurd (Heap.lt_size q) (Nat.lt_irrefl _)
theorem newTup {h : Heap} {xs : List AV} {vs : List Value} (R : SR prog w h₀ h W σ) (r : RVs h₀ h W xs vs) :
    SR prog w h₀ (h.push { cls := .type "tuple", data := .seq vs.toArray }) W σ ∧ Stp NoF h W σ (h.push { cls := .type "tuple", data := .seq vs.toArray }) W σ ∧
      RV h₀ (h.push { cls := .type "tuple", data := .seq vs.toArray }) W (.tup xs) (.ref h.objs.size) := by
  have k : ∀ b o, h.get? b = some o → (h.push { cls := .type "tuple", data := .seq vs.toArray }).get? b = some o := fun b o e => Heap.get?_push_of_some _ e
  obtain ⟨R', S⟩ := R.grow0 k
  refine ⟨R', S, .tup (vs := vs.toArray) ⟨_, Heap.get?_push_size _ rfl, rfl, 0, rfl⟩ ?_⟩
  exact RVs.keep (P := NoF) (fun b o _ e => k b o e) (niNo h) (fun _ _ e => e) (by simpa using r)
theorem newList {h : Heap} {xs : List AV} {vs : List Value} (R : SR prog w h₀ h W σ) (r : RVs h₀ h W xs vs) :
    SR prog w h₀ (h.push { cls := .type "list", data := .seq vs.toArray }) (W ++ [h.objs.size]) (σ.new (.list xs)) ∧ Stp NoF h W σ (h.push { cls := .type "list", data := .seq vs.toArray }) (W ++ [h.objs.size]) (σ.new (.list xs)) ∧
      RV h₀ (h.push { cls := .type "list", data := .seq vs.toArray }) (W ++ [h.objs.size]) (.ref σ.n) (.ref h.objs.size) := by
  have k : ∀ b o, h.get? b = some o → (h.push { cls := .type "list", data := .seq vs.toArray }).get? b = some o := fun b o e => Heap.get?_push_of_some _ e
  obtain ⟨R', S⟩ := R.new (h' := h.push { cls := .type "list", data := .seq vs.toArray }) (a := h.objs.size) (b := .list xs) k (top_none h)
    ⟨vs.toArray, ⟨0, Heap.get?_push_size _ rfl⟩, RVs.keep (P := NoF) (fun b o _ e => k b o e) (niNo h) (fun j y ey => by rw [List.getElem?_append_left (List.getElem?_eq_some_iff.mp ey).1]; exact ey) (by simpa using r)⟩
  exact ⟨R', S, .ref (by rw [← R.n]; simp)⟩

theorem RV.tup_inv {h : Heap} {xs : List AV} {v : Value} (r : RV h₀ h W (.tup xs) v) : ∃ a vs, v = .ref a ∧ h.IsTuple a vs ∧ RVs h₀ h W xs vs.toList := by
  cases r with | tup ht rs => exact ⟨_, _, rfl, ht, rs⟩
theorem RV.ref_inv {h : Heap} {i : Nat} {v : Value} (r : RV h₀ h W (.ref i) v) : ∃ a, v = .ref a ∧ W[i]? = some a := by
  cases r with | ref e => exact ⟨_, rfl, e⟩
theorem Sto.list_some {i : Nat} {xs : List AV} (e : σ.list i = some xs) : ∃ c, σ.get i = some c ∧ c.body = .list xs := by
  unfold Sto.list at e
  split at e
  · rename_i ys ver hc
    cases e
    exact ⟨_, hc, rfl⟩
  · cases e
theorem Sto.dict_some {i : Nat} {es : List (AV × AV)} (e : σ.dict i = some es) : ∃ c, σ.get i = some c ∧ c.body = .dict es := by
  unfold Sto.dict at e
  split at e
  · rename_i ys ver hc
    cases e
    exact ⟨_, hc, rfl⟩
  · cases e
theorem SR.plist {h : Heap} (R : SR prog w h₀ h W σ) {i : Nat} {a : Addr} {xs : List AV} (ea : W[i]? = some a) (e : σ.list i = some xs) : ∃ vs, h.PlainList a vs ∧ RVs h₀ h W xs vs.toList := by
  obtain ⟨c, ec, hb⟩ := Sto.list_some e
  have := R.cell i a c ea ec
  rw [hb] at this
  exact this
theorem SR.list {h : Heap} (R : SR prog w h₀ h W σ) {i : Nat} {a : Addr} {xs : List AV} (ea : W[i]? = some a) (e : σ.list i = some xs) : ∃ vs, h.IsList a vs ∧ RVs h₀ h W xs vs.toList := by
  obtain ⟨vs, hl, rs⟩ := R.plist ea e
  exact ⟨vs, hl.isList, rs⟩
theorem SR.dict {h : Heap} (R : SR prog w h₀ h W σ) {i : Nat} {a : Addr} {es : List (AV × AV)} (ea : W[i]? = some a) (e : σ.dict i = some es) : DS prog w h₀ h W es a ∨ DD prog w h₀ h W es a := by
  obtain ⟨c, ec, hb⟩ := Sto.dict_some e
  have := R.cell i a c ea ec
  rw [hb] at this
  exact this

theorem natAbs_lt {a : Int} (h : Nat.blt a.natAbs 1152921504606846976 = true) : a.natAbs < 2 ^ 64 := by
  have : a.natAbs < 1152921504606846976 := Nat.le_of_ble_eq_true h
  omega
theorem zne {q : Int} (h1 : Z.eqB q 0 = false) : q ≠ 0 := fun h => by rw [(Z.eqB_iff q 0).mpr h] at h1; cases h1
theorem mod_mod_ofNat {n m k r : Nat} (h2 : m % k = 0) (hn : n % m = r) : (Int.ofNat n).fmod (Int.ofNat k) = Int.ofNat (r % k) := by
  subst hn
  obtain ⟨c, hc⟩ := Nat.dvd_of_mod_eq_zero h2
  have e : n % m % k = n % k := by rw [hc]; exact Nat.mod_mul_right_mod n k c
  rw [e]
  exact (Int.ofNat_fmod n k).symm
theorem small_sz {α : Type} {xs : List α} (h : small 1000 xs = true) : xs.length ≤ 1000 := small_le h

theorem add_list_ok {l b : Addr} {its its2 : Array Value} {Q E : Value → Shared → Prop} (hl : s.heap.IsList l its) (hb : s.heap.IsList b its2) (hsz : its.size + its2.size ≤ sizeLine)
    (h : Q (.ref s.heap.objs.size) { s with heap := s.heap.push { cls := .type "list", data := .seq (its.toList ++ its2.toList).toArray } }) : wpAny (model prog w) A (binaryOp .Add (.ref l) (.ref b)) Q E s := by
  obtain ⟨⟨cls, dd, data, sl⟩, ho, hc, n, hd⟩ := id hl
  obtain ⟨⟨cls2, dd2, data2, sl2⟩, ho2, hc2, n2, hd2⟩ := id hb
  simp only at hc hd hc2 hd2
  subst hc hd hc2 hd2
  refine concat_meets ⟨_, ho, rfl⟩ ⟨_, ho2, rfl⟩ noFill_list_add seq_list_add PySem.F.slot_list_add PySem.F.entry_list_add (PySem.F.args_list_add_2 _ _) (list_addW l b its its2 n n2 dd dd2 sl sl2 hsz) ⟨ho, ho2, ?_⟩
  have e : its ++ its2 = (its.toList ++ its2.toList).toArray := by simp
  rw [e]
  exact h
theorem add_tup_ok {l b : Addr} {its its2 : Array Value} {Q E : Value → Shared → Prop} (hl : s.heap.IsTuple l its) (hb : s.heap.IsTuple b its2) (hsz : its.size + its2.size ≤ sizeLine)
    (h0 : its.toList = [] → Q (.ref b) s) (h1 : its2.toList = [] → Q (.ref l) s)
    (h : Q (.ref s.heap.objs.size) { s with heap := s.heap.push { cls := .type "tuple", data := .seq (its.toList ++ its2.toList).toArray } }) : wpAny (model prog w) A (binaryOp .Add (.ref l) (.ref b)) Q E s := by
  obtain ⟨⟨cls, dd, data, sl⟩, ho, hc, n, hd⟩ := id hl
  obtain ⟨⟨cls2, dd2, data2, sl2⟩, ho2, hc2, n2, hd2⟩ := id hb
  simp only at hc hd hc2 hd2
  subst hc hd hc2 hd2
  by_cases hv : its.isEmpty = true
  · exact concat_meets ⟨_, ho, rfl⟩ ⟨_, ho2, rfl⟩ noFill_tuple_add seq_tuple_add PySem.F.slot_tuple_add PySem.F.entry_tuple_add (PySem.F.args_tuple_add_2 _ _)
      (tuple_addW0 l b its its2 n n2 dd dd2 sl sl2 hv) ⟨ho, ho2, h0 (by simpa using hv)⟩
  · by_cases hw : its2.isEmpty = true
    · exact concat_meets ⟨_, ho, rfl⟩ ⟨_, ho2, rfl⟩ noFill_tuple_add seq_tuple_add PySem.F.slot_tuple_add PySem.F.entry_tuple_add (PySem.F.args_tuple_add_2 _ _)
        (tuple_addW1 l b its its2 n n2 dd dd2 sl sl2 hv hw) ⟨ho, ho2, h1 (by simpa using hw)⟩
    · refine concat_meets ⟨_, ho, rfl⟩ ⟨_, ho2, rfl⟩ noFill_tuple_add seq_tuple_add PySem.F.slot_tuple_add PySem.F.entry_tuple_add (PySem.F.args_tuple_add_2 _ _)
        (tuple_addW2 l b its its2 n n2 dd dd2 sl sl2 hv hw hsz) ⟨ho, ho2, ?_⟩
      have e : its ++ its2 = (its.toList ++ its2.toList).toArray := by simp
      rw [e]
      exact h

theorem binOp_ok {op : Operator} {a b v : AV} {σ' : Sto} {x y : Value} (e : binOp σ op a b = some (v, σ')) (R : SR prog w h₀ s.heap W σ) (ra : RV h₀ s.heap W a x) (rb : RV h₀ s.heap W b y) :
    Gives prog w h₀ NoF W σ s A (binaryOp op x y) v σ' := by
  cases op with
  | Add =>
    simp only [binOp] at e
    cases a <;> (try (simp at e; done)) <;> cases b <;> (try (simp at e; done))
    · -- int
      cases e
      cases ra; cases rb
      exact .pure R fun E Q hQ => P.add_int (hQ _ _ (.int _ _))
    · -- str
      rename_i p q
      dsimp only at e
      split at e <;> (try (cases e; done))
      rename_i h1
      split at e <;> (try (cases e; done))
      rename_i h2
      cases e
      cases ra; cases rb
      refine .pure R fun E Q hQ => add_str (fun t' tk => hQ tk _ (.str _ _)) ?_
      have h1 := small_sz h1
      have h2 := small_sz h2
      rw [sizeLine_eq]
      show p.cps.size + q.cps.size ≤ _
      simp only [Array.length_toList] at h1 h2
      omega
    · -- tup
      dsimp only at e
      split at e <;> (try (cases e; done))
      rename_i h1
      split at e <;> (try (cases e; done))
      rename_i h2
      cases e
      obtain ⟨l, vs, rfl, ht, rs⟩ := ra.tup_inv
      obtain ⟨l', us, rfl, ht', rs'⟩ := rb.tup_inv
      have h1 := small_sz h1
      have h2 := small_sz h2
      have n1 := RVs.length rs
      have n2 := RVs.length rs'
      simp only [Array.length_toList] at n1 n2
      intro E Q hQ
      refine add_tup_ok ht ht' (by rw [sizeLine_eq]; omega) (fun e0 => ?_) (fun e0 => ?_) ?_
      · refine hQ s.heap _ W _ (Stp.refl _ _ _ _) R ?_
        rw [e0] at rs
        cases rs
        exact .tup ht' rs'
      · refine hQ s.heap _ W _ (Stp.refl _ _ _ _) R ?_
        rw [e0] at rs'
        cases rs'
        rw [List.append_nil]
        exact .tup ht rs
      · obtain ⟨R', S, r⟩ := newTup R (RVs.append rs rs')
        exact hQ _ _ W _ S R' r
    · -- ref
      dsimp only at e
      obtain ⟨xs, e1, e⟩ := Option.bind_eq_some_iff.mp e
      obtain ⟨ys, e2, e⟩ := Option.bind_eq_some_iff.mp e
      split at e <;> (try (cases e; done))
      rename_i h1
      split at e <;> (try (cases e; done))
      rename_i h2
      cases e
      obtain ⟨l, rfl, el⟩ := ra.ref_inv
      obtain ⟨l', rfl, el'⟩ := rb.ref_inv
      obtain ⟨vs, hl, rs⟩ := R.list el e1
      obtain ⟨us, hl', rs'⟩ := R.list el' e2
      have h1 := small_sz h1
      have h2 := small_sz h2
      have n1 := RVs.length rs
      have n2 := RVs.length rs'
      simp only [Array.length_toList] at n1 n2
      intro E Q hQ
      refine add_list_ok hl hl' (by rw [sizeLine_eq]; omega) ?_
      obtain ⟨R', S, r⟩ := newList R (RVs.append rs rs')
      exact hQ _ _ _ _ S R' r
  | Sub =>
    simp only [binOp] at e
    cases a <;> (try (simp at e; done)) <;> cases b <;> (try (simp at e; done))
    cases e
    cases ra; cases rb
    exact .pure R fun E Q hQ => P.sub_int (hQ _ _ (.int _ _))
  | Mult =>
    simp only [binOp] at e
    cases a <;> (try (simp at e; done)) <;> cases b <;> (try (simp at e; done))
    dsimp only at e
    split at e <;> (try (cases e; done))
    rename_i h1
    cases e
    cases ra; cases rb
    have h1 := natAbs_lt h1
    exact .pure R fun E Q hQ => P.mul_int (hQ _ _ (.int _ _)) (IntMulOk.of_left (intBits_le_64 (by omega) (by omega)))
  | FloorDiv =>
    simp only [binOp] at e
    cases a <;> (try (simp at e; done)) <;> cases b <;> (try (simp at e; done))
    dsimp only at e
    split at e <;> (try (cases e; done))
    rename_i h1
    split at e <;> (try (cases e; done))
    rename_i h2
    cases e
    cases ra; cases rb
    have h1 := zne h1
    have h2 := Nat.le_of_ble_eq_true h2
    exact .pure R fun E Q hQ => floordiv_int h1 (hQ _ _ (.int _ _)) (.inl (PyProof.noPylong_small h2))
  | Mod =>
    simp only [binOp] at e
    cases a <;> (try (simp at e; done)) <;> cases b <;> (try (simp at e; done))
    · dsimp only at e
      split at e <;> (try (cases e; done))
      rename_i h1
      cases e
      cases ra; cases rb
      have h1 := zne h1
      exact .pure R fun E Q hQ => mod_int' h1 (hQ _ _ (.int _ _))
    · dsimp only at e
      split at e <;> (try (cases e; done))
      rename_i k
      split at e <;> (try (cases e; done))
      rename_i h1
      split at e <;> (try (cases e; done))
      rename_i h2
      cases e
      cases ra with
      | @resn _ _ n t hn =>
        cases rb
        have h1 : k ≠ 0 := Nat.ne_of_beq_eq_false h1
        refine .pure R fun E Q hQ => mod_int' (by simpa using h1) ?_
        have := mod_mod_ofNat (Nat.eq_of_beq_eq_true h2) hn
        show Q (.int ((Int.ofNat n).fmod (Int.ofNat k)) _) _
        rw [this]
        exact hQ _ _ (.int _ _)
  | Pow =>
    simp only [binOp] at e
    cases a <;> (try (simp at e; done)) <;> cases b <;> (try (simp at e; done))
    dsimp only at e
    split at e <;> (try (cases e; done))
    rename_i p
    split at e <;> (try (cases e; done))
    rename_i q
    split at e <;> (try (cases e; done))
    rename_i h1
    split at e <;> (try (cases e; done))
    rename_i h2
    cases e
    cases ra; cases rb
    have h1 : q ≤ 5000 := Nat.le_of_ble_eq_true h1
    have h2 : p < 1152921504606846976 := Nat.le_of_ble_eq_true h2
    refine .pure R fun E Q hQ => pow_int_small (by exact Int.natCast_nonneg q) (by show (q : Int) ≤ 1000000; omega) (by show p < 2 ^ 64; omega) ?_
    have : (Int.ofNat p) ^ (Int.ofNat q).toNat = Int.ofNat (p ^ q) := by
      show ((p : Nat) : Int) ^ q = ((p ^ q : Nat) : Int)
      simp
    rw [this]
    exact hQ _ _ (.int _ _)
  | _ => simp [binOp] at e
end
end Mine
end
section
open PySem PySem.W PySem.SeqAt PyProof.Rows
set_option maxRecDepth 100000
set_option linter.unusedVariables false
namespace Mine

section
variable {prog : Program} {w : World} {h₀ : Heap} {W : List Addr} {σ : Sto} {s : Shared} {A : Around}

theorem rcAt_of {n : Nat} {x y : AV} {v u : Value} {r : Bool} (hu : A.units + n < cLine) (rx : RV h₀ s.heap W x v) (ry : RV h₀ s.heap W y u) (e : dEq n x y = some r) : RcAt A s v u r := by
  cases rx with
  | int i t =>
    cases ry with
    | int j t' => simp only [dEq, Option.some.injEq] at e; rw [← e, zEq_iff]; exact RcAt.int_int _ _ _ _
    | str x' t' => simp only [dEq, Option.some.injEq] at e; rw [← e]; exact RcAt.int_str _ _ _ _
    | tup ht rs => simp only [dEq, Option.some.injEq] at e; rw [← e]; exact RcAt.int_tuple _ _ ht (by omega)
    | _ => simp [dEq] at e
  | str i t =>
    cases ry with
    | int j t' => simp only [dEq, Option.some.injEq] at e; rw [← e]; exact RcAt.str_int _ _ _ _
    | str x' t' => simp only [dEq, Option.some.injEq] at e; rw [← e, sEq_beq]; exact RcAt.str_str _ _ _ _
    | tup ht rs => simp only [dEq, Option.some.injEq] at e; rw [← e]; exact RcAt.str_tuple _ _ ht (by omega)
    | _ => simp [dEq] at e
  | bool b =>
    cases ry with
    | bool c =>
      have : r = (b == c) := by cases b <;> cases c <;> simp [dEq] at e <;> simp [e]
      rw [this]; exact RcAt.bool_bool _ _
    | _ => simp [dEq] at e
  | tup ht rs =>
    cases ry with
    | int j t' => simp only [dEq, Option.some.injEq] at e; rw [← e]; exact RcAt.tuple_int _ _ ht (by omega)
    | str x' t' => simp only [dEq, Option.some.injEq] at e; rw [← e]; exact RcAt.tuple_str _ _ ht (by omega)
    | @tup ys b us ht' rs' =>
      rename_i xs a vs
      cases n with
      | zero => simp [dEq] at e
      | succ n =>
        have ez : zipAll (dEq n) xs ys = some r := by simpa [dEq] using e
        obtain ⟨ok, hr⟩ := zipAll_some ez
        rw [hr, range_len rs rs']
        exact RcAt.tuples ht ht' (by omega) (pairs_eq rs rs' ok fun rv ru hb => eqAt_of n (A := A.in1) (by show A.units + 1 + n < cLine; omega) rv ru hb)
    | _ => simp [dEq] at e
  | _ => simp [dEq] at e

theorem rcNeAt_of {n : Nat} {x y : AV} {v u : Value} {r : Bool} (hu : A.units + n < cLine) (rx : RV h₀ s.heap W x v) (ry : RV h₀ s.heap W y u) (e : dEq n x y = some r) : RcNeAt A s v u (!r) := by
  cases rx with
  | int i t =>
    cases ry with
    | int j t' => simp only [dEq, Option.some.injEq] at e; rw [← e, zEq_iff]; exact RcNeAt.int_int _ _ _ _
    | str x' t' => simp only [dEq, Option.some.injEq] at e; rw [← e]; exact RcNeAt.int_str _ _ _ _
    | tup ht rs => simp only [dEq, Option.some.injEq] at e; rw [← e]; exact RcNeAt.int_tuple _ _ ht (by omega)
    | _ => simp [dEq] at e
  | str i t =>
    cases ry with
    | int j t' => simp only [dEq, Option.some.injEq] at e; rw [← e]; exact RcNeAt.str_int _ _ _ _
    | str x' t' => simp only [dEq, Option.some.injEq] at e; rw [← e, sEq_beq]; exact RcNeAt.str_str _ _ _ _
    | tup ht rs => simp only [dEq, Option.some.injEq] at e; rw [← e]; exact RcNeAt.str_tuple _ _ ht (by omega)
    | _ => simp [dEq] at e
  | bool b =>
    cases ry with
    | bool c =>
      have : r = (b == c) := by cases b <;> cases c <;> simp [dEq] at e <;> simp [e]
      rw [this]; exact RcNeAt.bool_bool _ _
    | _ => simp [dEq] at e
  | tup ht rs =>
    cases ry with
    | int j t' => simp only [dEq, Option.some.injEq] at e; rw [← e]; exact RcNeAt.tuple_int _ _ ht (by omega)
    | str x' t' => simp only [dEq, Option.some.injEq] at e; rw [← e]; exact RcNeAt.tuple_str _ _ ht (by omega)
    | @tup ys b us ht' rs' =>
      rename_i xs a vs
      cases n with
      | zero => simp [dEq] at e
      | succ n =>
        have ez : zipAll (dEq n) xs ys = some r := by simpa [dEq] using e
        obtain ⟨ok, hr⟩ := zipAll_some ez
        rw [hr, range_len rs rs']
        exact RcNeAt.tuples ht ht' (by omega) (pairs_eq rs rs' ok fun rv ru hb => eqAt_of n (A := A.in1) (by show A.units + 1 + n < cLine; omega) rv ru hb)
    | _ => simp [dEq] at e
  | _ => simp [dEq] at e

theorem lists_len {xs ys : List AV} {vs us : Array Value} {h : Heap} {f : Nat → Bool} {r : Bool} (rx : RVs h₀ h W xs vs.toList) (ry : RVs h₀ h W ys us.toList) (hr : r = ((List.range (min xs.length ys.length)).all f && xs.length == ys.length)) :
    (vs.size = us.size → r = (List.range vs.size).all f) ∧ (vs.size ≠ us.size → r = false) := by
  rw [range_len rx ry] at hr
  refine ⟨fun e => ?_, fun e => ?_⟩
  · rw [hr, ← e]; simp
  · rw [hr]; simp [e]

theorem rcList_of {xs ys : List AV} {a b : Addr} {vs us : Array Value} {r : Bool} (hu : A.units + 30 < cLine) (hl : s.heap.IsList a vs) (hl' : s.heap.IsList b us) (rx : RVs h₀ s.heap W xs vs.toList) (ry : RVs h₀ s.heap W ys us.toList)
    (e : zipAll (dEq 10) xs ys = some r) : RcAt A s (.ref a) (.ref b) r ∧ RcNeAt A s (.ref a) (.ref b) (!r) := by
  obtain ⟨ok, hr⟩ := zipAll_some e
  obtain ⟨h1, h2⟩ := lists_len rx ry hr
  have pe := pairs_eq rx ry ok fun rv ru hb => eqAt_of 10 (A := A.in1) (by show A.units + 1 + 10 < cLine; omega) rv ru hb
  by_cases hs : vs.size = us.size
  · rw [h1 hs]
    exact ⟨RcAt.lists hl hl' hs (by omega) pe, RcNeAt.lists hl hl' hs (by omega) pe⟩
  · rw [h2 hs]
    exact ⟨RcAt.lists_lengths hl hl' (by simpa using hs) (by omega), RcNeAt.lists_lengths hl hl' (by simpa using hs) (by omega)⟩

theorem cmpEq_ok {a b : AV} {x y : Value} {r : Bool} (e : cmpEq σ a b = some r) (hu : A.units + 30 < cLine) (R : SR prog w h₀ s.heap W σ) (ra : RV h₀ s.heap W a x) (rb : RV h₀ s.heap W b y) : RcAt A s x y r ∧ RcNeAt A s x y (!r) := by
  unfold cmpEq at e
  split at e
  · rename_i i
    split at e
    · rename_i j
      obtain ⟨xs, e1, e⟩ := Option.bind_eq_some_iff.mp e
      obtain ⟨ys, e2, e⟩ := Option.bind_eq_some_iff.mp e
      obtain ⟨l, rfl, el⟩ := ra.ref_inv
      obtain ⟨l', rfl, el'⟩ := rb.ref_inv
      obtain ⟨vs, hl, rs⟩ := R.list el e1
      obtain ⟨us, hl', rs'⟩ := R.list el' e2
      exact rcList_of hu hl hl' rs rs' e
    · cases e
  · exact ⟨rcAt_of (by omega) ra rb e, rcNeAt_of (by omega) ra rb e⟩

open Classical in
theorem memD_ok {xs : List AV} {k : AV} {vs : Array Value} {kv : Value} {r : Bool} (e : memD xs k = some r) (hu : A.units + 30 < cLine) (rs : RVs h₀ s.heap W xs vs.toList) (rk : RV h₀ s.heap W k kv) :
    ∃ f : Value → Bool, (∀ y, y ∈ vs → EqAt A.in1 s y kv (f y)) ∧ vs.any f = r := by
  unfold memD at e
  split at e <;> (try (cases e; done))
  rename_i hk
  split at e <;> (try (cases e; done))
  rename_i hx
  cases e
  rw [allB_iff] at hx
  have any_iff : ∀ {xs : List AV}, (∀ x ∈ xs, isDat 8 x = true) → (anyD k xs = true ↔ ∃ x ∈ xs, x = k) := by
    intro xs
    induction xs with
    | nil => intro _; simp [anyD]
    | cons x xs ih =>
      intro hx
      obtain ⟨b, h1, h2⟩ := dEq_dat 8 (hx x (.head _)) hk
      have h1 := dEq_up 8 10 (by omega) h1
      have ih := ih fun x m => hx x (.tail _ m)
      unfold anyD
      rw [h1]
      cases b with
      | true => simp [h2.mp rfl]
      | false =>
        have hne : ¬ k = x := fun q => by have := h2.mpr q.symm; cases this
        simp [ih, hne]
  have mem_r : ∀ {xs : List AV} {us : List Value}, RVs h₀ s.heap W xs us → ∀ y ∈ us, ∃ x ∈ xs, RV h₀ s.heap W x y := by
    intro xs us r
    induction us generalizing xs with
    | nil => intro y m; cases m
    | cons u us ih =>
      cases r with
      | cons q qs =>
        intro y m
        rcases List.mem_cons.mp m with rfl | m
        · exact ⟨_, .head _, q⟩
        · obtain ⟨x, hx, r⟩ := ih qs y m
          exact ⟨x, .tail _ hx, r⟩
  have mem_l : ∀ {us : List Value} {xs : List AV}, RVs h₀ s.heap W xs us → ∀ x ∈ xs, ∃ y ∈ us, RV h₀ s.heap W x y := by
    intro us
    induction us with
    | nil => intro xs r x m; cases r; cases m
    | cons u us ih =>
      intro xs r x m
      cases r with
      | cons q qs =>
        rcases List.mem_cons.mp m with rfl | m
        · exact ⟨u, .head _, q⟩
        · obtain ⟨y, hy, r⟩ := ih qs x m
          exact ⟨y, .tail _ hy, r⟩
  refine ⟨fun y => decide (∃ x ∈ xs, RV h₀ s.heap W x y ∧ x = k), fun y hy => ?_, ?_⟩
  · obtain ⟨x, hxm, rx⟩ := mem_r rs y (Array.mem_toList_iff.mpr hy)
    obtain ⟨b, h1, h2⟩ := dEq_dat 8 (hx x hxm) hk
    have : decide (∃ x ∈ xs, RV h₀ s.heap W x y ∧ x = k) = b := by
      cases b with
      | true => exact decide_eq_true ⟨x, hxm, rx, h2.mp rfl⟩
      | false =>
        refine decide_eq_false ?_
        rintro ⟨x', hx', rx', rfl⟩
        have := h2.mpr (RV.inj 8 (hx x hxm) hk rx rx')
        cases this
    show EqAt A.in1 s y kv (decide (∃ x ∈ xs, RV h₀ s.heap W x y ∧ x = k))
    rw [this]
    exact eqAt_of 8 (A := A.in1) (by show A.units + 1 + 8 < cLine; omega) rx rk h1
  · rw [Bool.eq_iff_iff, any_iff hx, ← Array.any_toList, List.any_eq_true]
    constructor
    · rintro ⟨y, hy, h⟩
      obtain ⟨x, hx, _, e⟩ := of_decide_eq_true h
      exact ⟨x, hx, e⟩
    · rintro ⟨x, hx, rfl⟩
      obtain ⟨y, hy, r⟩ := mem_l rs x hx
      exact ⟨y, hy, decide_eq_true ⟨x, hx, r, rfl⟩⟩
end

-- dicts
section
variable {prog : Program} {w : World} {h₀ h : Heap} {W : List Addr}

theorem DictOf.empty_of {K K' : Type} [DecidableEq K] [DecidableEq K'] {knd : HeapKind prog w K} {knd' : KeyKind prog w K'} {a : Addr} (x : h.DictOfH knd a []) : h.DictOf knd' a [] := by
  obtain ⟨o, es, ep, ho, hc, hd, he, _⟩ := x
  refine ⟨o, es, ep, ho, hc, hd, fun e m => ?_, ?_, List.nodup_nil⟩
  · have : e ∈ es.toList := Array.mem_toList_iff.mpr m
    rw [he] at this; cases this
  · rw [he]; exact Pairs.nil
theorem DictOf.empty_to {K K' : Type} [DecidableEq K] [DecidableEq K'] {knd : HeapKind prog w K} {knd' : KeyKind prog w K'} {a : Addr} (x : h.DictOf knd' a []) : h.DictOfH knd a [] := by
  obtain ⟨o, es, ep, ho, hc, hd, _, hp, _⟩ := x
  refine ⟨o, es, ep, ho, hc, hd, ?_, (fun x m => by cases m), List.nodup_nil⟩
  cases hq : es.toList with
  | nil => rfl
  | cons e r => rw [hq] at hp; cases hp

open Classical in
theorem DS.of {es : List (AV × AV)} {a : Addr} {x : Str} (hk : keyFits (.str x) es = true) (r : DS prog w h₀ h W es a ∨ DD prog w h₀ h W es a) : DS prog w h₀ h W es a := by
  rcases r with r | ⟨xs, hd, hk', rs⟩
  · exact r
  · cases es with
    | nil =>
      cases xs with
      | nil => exact ⟨[], DictOf.empty_of hd, rfl, .nil⟩
      | cons x xs => simp at hk'
    | cons e es =>
      cases xs with
      | nil => simp at hk'
      | cons y ys =>
        exfalso
        obtain ⟨_, _, _, _, _, _, _, his, _⟩ := hd
        obtain ⟨⟨zs, hz⟩, _⟩ := his y (.head _)
        simp only [List.map_cons, List.cons.injEq] at hk'
        simp [keyFits, keyOk, sameKeys, hk'.1, hz] at hk
open Classical in
theorem DD.of {es : List (AV × AV)} {a : Addr} {xs : List AV} (hk : keyFits (.tup xs) es = true) (r : DS prog w h₀ h W es a ∨ DD prog w h₀ h W es a) : DD prog w h₀ h W es a := by
  rcases r with ⟨kvs, hd, hk', rs⟩ | r
  · cases es with
    | nil =>
      cases kvs with
      | nil => exact ⟨[], DictOf.empty_to hd, rfl, .nil⟩
      | cons x xs => simp at hk'
    | cons e es =>
      cases kvs with
      | nil => simp at hk'
      | cons y ys =>
        exfalso
        simp only [List.map_cons, List.cons.injEq] at hk'
        unfold keyFits at hk
        split at hk
        · simp [sameKeys, hk'.1] at hk
        · cases hk
  · exact r

theorem keyFits_ok {k : AV} {es : List (AV × AV)} (hk : keyFits k es = true) : (∃ x, k = .str x) ∨ ∃ xs, k = .tup xs ∧ isDat 8 k = true := by
  unfold keyFits at hk
  split at hk
  · rename_i q
    cases k with
    | str x => exact .inl ⟨x, rfl⟩
    | tup xs => exact .inr ⟨xs, rfl, by simpa [keyOk] using q⟩
    | _ => simp [keyOk] at q
  · cases hk

theorem dFind_S {x : Str} : ∀ {es : List (AV × AV)} {kvs : List (Str × Value)} {o : Option AV}, es.map (·.1) = kvs.map (fun p => AV.str p.1) → RVs h₀ h W (es.map (·.2)) (kvs.map (·.2)) → dFind es (.str x) = some o →
    (o = none ∧ valueAt kvs x = none) ∨ ∃ v val, o = some v ∧ valueAt kvs x = some val ∧ RV h₀ h W v val
  | [], kvs, o, hk, rs, e => by
    cases kvs with
    | nil => cases e; exact .inl ⟨rfl, rfl⟩
    | cons _ _ => simp at hk
  | e₀ :: es, kvs, o, hk, rs, e => by
    cases kvs with
    | nil => simp at hk
    | cons p kvs =>
      simp only [List.map_cons, List.cons.injEq] at hk
      cases rs with
      | cons r rs =>
        unfold dFind at e
        rw [hk.1] at e
        simp only [dEq] at e
        cases q : sEq p.1 x with
        | true =>
          rw [q] at e
          cases e
          have := sEq_iff.mp q
          exact .inr ⟨_, _, rfl, by simp [valueAt, this], r⟩
        | false =>
          rw [q] at e
          have hne := sEq_false.mp q
          rcases dFind_S hk.2 rs e with ⟨h1, h2⟩ | ⟨v, val, h1, h2, h3⟩
          · exact .inl ⟨h1, by simpa [valueAt, List.find?_cons, hne] using h2⟩
          · exact .inr ⟨v, val, h1, by simpa [valueAt, List.find?_cons, hne] using h2, h3⟩
open Classical in
theorem dFind_D {k : AV} (hd : isDat 8 k = true) : ∀ {es : List (AV × AV)} {xs : List (AV × Addr × Value)} {o : Option AV}, es.map (·.1) = xs.map (·.1) → (∀ x ∈ xs, isDat 8 x.1 = true) → RVs h₀ h W (es.map (·.2)) (xs.map (·.2.2)) → dFind es k = some o →
    (o = none ∧ atKey xs k = none) ∨ ∃ v p, o = some v ∧ atKey xs k = some p ∧ RV h₀ h W v p.2
  | [], xs, o, hk, _, rs, e => by
    cases xs with
    | nil => cases e; exact .inl ⟨rfl, rfl⟩
    | cons _ _ => simp at hk
  | e₀ :: es, xs, o, hk, hds, rs, e => by
    cases xs with
    | nil => simp at hk
    | cons p xs =>
      simp only [List.map_cons, List.cons.injEq] at hk
      cases rs with
      | cons r rs =>
        obtain ⟨b, h1, h2⟩ := dEq_dat 8 (hds p (.head _)) hd
        have h1 := dEq_up 8 10 (by omega) h1
        unfold dFind at e
        rw [hk.1, h1] at e
        cases b with
        | true =>
          cases e
          have := h2.mp rfl
          exact .inr ⟨_, p.2, rfl, by simp [atKey, this], r⟩
        | false =>
          have hne : p.1 ≠ k := fun q => by have := h2.mpr q; cases this
          rcases dFind_D hd hk.2 (fun x m => hds x (.tail _ m)) rs e with ⟨h1, h2⟩ | ⟨v, val, h1, h2, h3⟩
          · exact .inl ⟨h1, by simpa [atKey, List.find?_cons, hne] using h2⟩
          · exact .inr ⟨v, val, h1, by simpa [atKey, List.find?_cons, hne] using h2, h3⟩
end

section
variable {prog : Program} {w : World} {h₀ : Heap} {W : List Addr} {σ : Sto} {s : Shared} {A : Around}

theorem memIn_ok {k c : AV} {x y : Value} {r : Bool} (e : memIn σ k c = some r) (hu : A.units + 30 < cLine) (R : SR prog w h₀ s.heap W σ) (rk : RV h₀ s.heap W k x) (rc : RV h₀ s.heap W c y) (E Q : Value → Shared → Prop) :
    (Q (.bool r) s → wpAny (model prog w) A (compareOp .In x y) Q E s) ∧ (Q (.bool (!r)) s → wpAny (model prog w) A (compareOp .NotIn x y) Q E s) := by
  unfold memIn at e
  split at e
  · obtain ⟨a, vs, rfl, ht, rs⟩ := rc.tup_inv
    obtain ⟨f, h1, h2⟩ := memD_ok e hu rs rk
    exact ⟨fun q => in_tupleAt f ht h1 (h2 ▸ q), fun q => notIn_tupleAt f ht h1 (h2 ▸ q)⟩
  · obtain ⟨xs, e1, e⟩ := Option.bind_eq_some_iff.mp e
    obtain ⟨l, rfl, el⟩ := rc.ref_inv
    obtain ⟨vs, hl, rs⟩ := R.list el e1
    obtain ⟨f, h1, h2⟩ := memD_ok e hu rs rk
    exact ⟨fun q => in_listAt f hl h1 (h2 ▸ q), fun q => notIn_listAt f hl h1 (h2 ▸ q)⟩
  · cases e

noncomputable def Bs0 (h₀ : Heap) : Prop := ∃ o, h₀.get? sysModules = some o
theorem SR.noSys {h : Heap} (b : Bs0 h₀) (R : SR prog w h₀ h W σ) {i : Nat} {a : Addr} (ea : W[i]? = some a) : (a == sysModules) = false := by
  have h1 := R.ab a (List.mem_of_getElem? ea)
  obtain ⟨o, h2⟩ := b
  have : a ≠ sysModules := fun e => by rw [e, h2] at h1; cases h1
  simpa using this

open Classical in
theorem DD.dat {h : Heap} {es : List (AV × AV)} {a : Addr} {xs : List (AV × Addr × Value)} (hd : h.DictOfH (datKind prog w) a xs) : ∀ x ∈ xs, isDat 8 x.1 = true := fun x m => by
  obtain ⟨_, _, _, _, _, _, _, his, _⟩ := hd
  exact (his x m).2.1

open Classical in
theorem cmpIn_ok {k c : AV} {x y : Value} {r : Bool} (b0 : Bs0 h₀) (e : cmpIn σ k c = some r) (hu : A.units + 30 < cLine) (R : SR prog w h₀ s.heap W σ) (rk : RV h₀ s.heap W k x) (rc : RV h₀ s.heap W c y) (E Q : Value → Shared → Prop)
    (q : ∀ tk, Q (.bool r) { s with toks := tk }) : wpAny (model prog w) A (compareOp .In x y) Q E s := by
  unfold cmpIn at e
  split at e
  · obtain ⟨a, vs, rfl, ht, rs⟩ := rc.tup_inv
    obtain ⟨f, h1, h2⟩ := memD_ok e hu rs rk
    exact in_tupleAt f ht h1 (h2 ▸ q s.toks)
  · rename_i i
    obtain ⟨l, rfl, el⟩ := rc.ref_inv
    split at e <;> (try (cases e; done))
    rename_i c ec
    have rc' := R.cell i l c el ec
    split at e <;> (try (cases e; done))
    · rename_i xs hb
      rw [hb] at rc'
      obtain ⟨vs, hl, rs⟩ := rc'
      replace hl := hl.isList
      obtain ⟨f, h1, h2⟩ := memD_ok e hu rs rk
      exact in_listAt f hl h1 (h2 ▸ q s.toks)
    · rename_i es hb
      rw [hb] at rc'
      split at e <;> (try (cases e; done))
      rename_i hk
      obtain ⟨o, e1, e⟩ := Option.bind_eq_some_iff.mp e
      cases e
      rcases keyFits_ok hk with ⟨z, rfl⟩ | ⟨zs, rfl, hd⟩
      · obtain ⟨kvs, hm, hk', rs⟩ := DS.of hk rc'
        cases rk
        refine wpAny_in_of (knd := PySem.strKind prog w) (k := z) (by simp [PySem.strKind, Value.isStrOf]) (R.noSys b0 el) hm.mapOf ?_
        rcases dFind_S hk' rs e1 with ⟨rfl, h2⟩ | ⟨v, val, rfl, h2, _⟩
        · rw [h2]; exact q _
        · rw [h2]; exact q _
      · obtain ⟨xs, hm, hk', rs⟩ := DD.of hk rc'
        obtain ⟨a', vs, rfl, ht, rs'⟩ := rk.tup_inv
        refine wpAny_in_heap (knd := datKind prog w) (k := .tup zs) (xs := xs) (by show A.units + 1 + 10 < cLine; omega) ⟨⟨zs, rfl⟩, hd, RV.dat 8 hd rk⟩ (R.noSys b0 el) hm ?_
        rcases dFind_D hd hk' (DD.dat (es := es) hm) rs e1 with ⟨rfl, h2⟩ | ⟨v, val, rfl, h2, _⟩
        · rw [h2]; exact q _
        · rw [h2]; exact q _
  · cases e

theorem cmpOp_ok {op : CmpOp} {a b : AV} {x y : Value} {r : Bool} (b0 : Bs0 h₀) (e : cmpOp σ op a b = some r) (hu : A.units + 30 < cLine) (R : SR prog w h₀ s.heap W σ) (ra : RV h₀ s.heap W a x) (rb : RV h₀ s.heap W b y) (E Q : Value → Shared → Prop)
    (q : ∀ tk, Q (.bool r) { s with toks := tk }) : wpAny (model prog w) A (compareOp op x y) Q E s := by
  have two : ∀ {f : Int → Int → Bool} {r : Bool}, cmpInt f a b = some r → ∃ i j t u, x = .int i t ∧ y = .int j u ∧ r = f i j := by
    intro f r e
    unfold cmpInt at e
    split at e
    · split at e
      · cases e; cases ra; cases rb; exact ⟨_, _, _, _, rfl, rfl, rfl⟩
      · cases e
    · cases e
  cases op <;> simp only [cmpOp] at e <;> (try (cases e; done))
  · exact (cmpEq_ok e hu R ra rb).1 prog w E Q (q s.toks)
  · obtain ⟨r', e1, e⟩ := Option.bind_eq_some_iff.mp e
    cases e
    exact (cmpEq_ok e1 hu R ra rb).2 prog w E Q (q s.toks)
  · obtain ⟨i, j, t, u, rfl, rfl, rfl⟩ := two e
    refine P.lt_int ?_
    have : Z.ltB i j = decide (i < j) := by rw [Bool.eq_iff_iff, Z.ltB_iff, decide_eq_true_iff]
    rw [← this]; exact q s.toks
  · obtain ⟨i, j, t, u, rfl, rfl, rfl⟩ := two e
    refine P.le_int ?_
    have : Z.leB i j = decide (i ≤ j) := by rw [Bool.eq_iff_iff, Z.leB_iff, decide_eq_true_iff]
    rw [← this]; exact q s.toks
  · obtain ⟨i, j, t, u, rfl, rfl, rfl⟩ := two e
    refine P.gt_int ?_
    have : Z.ltB j i = decide (i > j) := by rw [Bool.eq_iff_iff, Z.ltB_iff, decide_eq_true_iff]
    rw [← this]; exact q s.toks
  · obtain ⟨i, j, t, u, rfl, rfl, rfl⟩ := two e
    refine P.ge_int ?_
    have : Z.leB j i = decide (i ≥ j) := by rw [Bool.eq_iff_iff, Z.leB_iff, decide_eq_true_iff]
    rw [← this]; exact q s.toks
  · exact cmpIn_ok b0 e hu R ra rb E Q q
  · obtain ⟨r', e1, e⟩ := Option.bind_eq_some_iff.mp e
    cases e
    exact (memIn_ok e1 hu R ra rb E Q).2 (q s.toks)
end
end Mine
end
section
open PySem PySem.W PySem.SeqAt PyProof.Rows
set_option maxRecDepth 100000
set_option linter.unusedVariables false
namespace Mine

structure FnOk (h₀ : Heap) (a : Addr) (F : Fn) (o : Obj) (fd : FuncData) : Prop where
  here : h₀.get? a = some o
  data : o.data = .func fd
  globals : fd.globals = mainGlobals
  builtins : fd.builtins = builtinsNs
  closure : fd.closure = []
  co : fd.scope.isCoroutine = false
  gen : fd.scope.isGenerator = false
  kind : fd.scope.kind = .function
  body : fd.body = .stmts F.body
  names : fd.scope.names = F.sc
  ps : fd.params.args.map (·.arg) = F.ps
  po : fd.params.posonlyargs = []
  ko : fd.params.kwonlyargs = []
  va : fd.params.vararg = none
  kw : fd.params.kwarg = none
  df : fd.defaults = .none
  loc : ∀ x ∈ F.ps, isLocal F.sc x = true
  nodup : nodupS F.ps = true
  code : h₀.CodeRec fd.code fd.qualname
  nofree : ∀ x, kindIn F.sc x ≠ some .free

structure Bs (prog : Program) (w : World) (K : Frag) (h₀ : Heap) : Prop where
  kin : K.In h₀
  lim : h₀.NoLimit
  sys : Bs0 h₀
  tup : ∀ a o vs n, lkA K a = some o → o.data = .seq vs n → o.cls = .type "tuple"
  mg : ∃ mg, h₀.Ns mainGlobals mg ∧ ∀ x, mg x = glob K x
  mb : ∃ mb, h₀.Ns builtinsNs mb ∧ ∀ b, mb (biName b) = some (biVal b)
  gd : ∀ a x v, gdGet K a x = some v → ∃ mp i t, v = .int i ∧ h₀.MapOf (strKind prog w) a mp ∧ mp x = some (.int i t)
  fns : ∀ a F, fnAt K a = some F → ∃ o fd, FnOk h₀ a F o fd

section
variable {prog : Program} {w : World} {K : Frag} {h₀ : Heap} {W : List Addr} {σ σ' : Sto} {s : Shared} {A : Around} {env : Env} {c : Cx} {ρ : Rho}

theorem absV_ok (B : Bs prog w K h₀) {h : Heap} (old : ∀ b o, h₀.get? b = some o → h.get? b = some o) :
    ∀ n, (∀ v av, absV K n v = some av → RV h₀ h W av v) ∧ (∀ vs avs, absVs K n vs = some avs → RVs h₀ h W avs vs) := by
  intro n
  induction n with
  | zero => exact ⟨fun v av e => by simp [absV] at e, fun v av e => by simp [absVs] at e⟩
  | succ n ih =>
    constructor
    · intro v av e
      unfold absV at e
      split at e
      · cases e; exact .int _ _
      · cases e; exact .str _ _
      · rename_i a
        cases q : lkA K a with
        | none => rw [q] at e; cases e
        | some o =>
          rw [q] at e
          simp only at e
          have hin : h.get? a = some o := old _ _ (B.kin a o (by rw [← lkA_eq]; exact q))
          split at e
          · cases e; exact .fn a
          · rename_i vs m hd
            obtain ⟨xs, e1, e⟩ := Option.bind_eq_some_iff.mp e
            cases e
            exact .tup ⟨o, hin, B.tup a o vs m q hd, m, hd⟩ (ih.2 _ _ e1)
          · cases e; exact .gd a
          · cases e
      · cases e
    · intro vs avs e
      unfold absVs at e
      split at e
      · cases e; exact .nil
      · obtain ⟨x, e1, e⟩ := Option.bind_eq_some_iff.mp e
        obtain ⟨xs, e2, e⟩ := Option.bind_eq_some_iff.mp e
        cases e
        exact .cons (ih.1 _ _ e1) (ih.2 _ _ e2)

theorem biFind_ok {x : Str} {b : BI} : ∀ {l : List BI}, biFind x l = some b → biName b = x
  | [], e => by simp [biFind] at e
  | y :: l, e => by
    unfold biFind at e
    split at e
    · rename_i q; cases e; exact sEq_iff.mp q
    · exact biFind_ok e

theorem under_ne {x y : Str} (hy : under y = true) (hx : under x = false) : (x == y) = false := by
  cases q : x == y with
  | false => rfl
  | true => rw [beq_iff_eq.mp q, hy] at hx; cases hx

theorem Heap.Ns.old {h h' : Heap} {N : Addr} {m : Str → Option Value} (k : ∀ b o, h.get? b = some o → h'.get? b = some o) (n : h.Ns N m) : h'.Ns N m := by
  obtain ⟨o, es, ep, ho, q⟩ := n
  exact ⟨o, es, ep, k _ _ ho, q⟩

theorem evName_ok (B : Bs prog w K h₀) {x : Str} {pos : Pos} {v : AV} (e : evName K c ρ x = some v) (f : FrOk h₀ env c.sc ρ s.heap W) (R : SR prog w h₀ s.heap W σ) (E Q : Value → Shared → Prop)
    (q : ∀ val, RV h₀ s.heap W v val → Q val s) : wpAny (model prog w) A (eval (.Name x pos) env) Q E s := by
  unfold evName at e
  cases hu : under x with
  | true => rw [hu] at e; cases e
  | false =>
    rw [hu] at e
    simp only at e
    have hd : (x == ("__debug__" : Str)) = false := under_ne rfl hu
    have hc : (x == ("__classdict__" : Str)) = false := under_ne rfl hu
    cases hl : lk ρ x with
    | some u =>
      rw [hl] at e
      cases e
      by_cases hk : env.kindOf x = some .local
      · obtain ⟨m, hn, hm⟩ := f.ns
        obtain ⟨val, h1, h2⟩ := hm x _ hl hk
        exact wpAny_Name (wpAny_loadName_local f.kind hk hn h1 (q val h2)) hd
      · obtain ⟨h1, c', val, h2, h3, h4⟩ := f.cell x _ hl hk
        rcases h1 with h1 | h1
        · exact wpAny_Name (wpAny_loadName_cell f.kind h1 h2 h3 (q val h4)) hd
        · exact wpAny_Name (wpAny_loadName_free f.kind h1 h2 h3 (q val h4) hc) hd
    | none =>
      rw [hl] at e
      simp only at e
      split at e
      · rename_i hk
        have hk' := f.gi x hk
        obtain ⟨mg, hg, hmg⟩ := B.mg
        have hg' : s.heap.Ns env.globals mg := by rw [f.glob]; exact Heap.Ns.old R.old hg
        refine Calls.Name_function_global f.kind hk' ?_ hd
        cases hgl : glob K x with
        | some val =>
          rw [hgl] at e
          exact Calls.loadGlobal_global hg' ((hmg x).trans hgl) (q val ((absV_ok B R.old 12).1 _ _ e))
        | none =>
          rw [hgl] at e
          obtain ⟨b, e1, e⟩ := Option.bind_eq_some_iff.mp e
          cases e
          obtain ⟨mb, hb, hmb⟩ := B.mb
          have hb' : s.heap.Ns env.builtins mb := by rw [f.bi]; exact Heap.Ns.old R.old hb
          have := hmb b
          rw [biFind_ok e1] at this
          exact Calls.loadGlobal_builtin hg' ((hmg x).trans hgl) hb' this (q _ (.bi rfl))
      · cases e

theorem evConst_ok {k : Const} {v : AV} {n : Nat} {pos : Pos} (e : evConst k = some v) (E Q : Value → Shared → Prop) (q : ∀ tk val, RV h₀ s.heap W v val → Q val { s with toks := tk }) :
    wpAny (model prog w) A (eval (.Constant k n pos) env) Q E s := by
  unfold evConst at e
  split at e
  · cases e; exact wpAny_Constant_none (q s.toks _ .none)
  · cases e; exact wpAny_Constant_bool (q s.toks _ (.bool _))
  · cases e; exact wpAny_Constant_int (q _ _ (.int _ _))
  · cases e; exact wpAny_Constant_str (q _ _ (.str _ _))
  · cases e

theorem truthOf_some {a : AV} {t : Bool} (e : truthOf a = some t) : a = .bool t := by
  unfold truthOf at e
  split at e
  · cases e; rfl
  · cases e

noncomputable def GivesL (prog : Program) (w : World) (h₀ : Heap) (W : List Addr) (σ : Sto) (s : Shared) (A : Around) (t : Sem (List Value)) (vs : List AV) (σ' : Sto) : Prop :=
  ∀ (E : Value → Shared → Prop) (Q : List Value → Shared → Prop), (∀ h' tk W' vals, Stp NoF s.heap W σ h' W' σ' → SR prog w h₀ h' W' σ' → RVs h₀ h' W' vs vals → Q vals { s with heap := h', toks := tk }) → wpAny (model prog w) A t Q E s

variable {R : Rec}
theorem evAll_ok (ih : EvS prog w h₀ R.ev) {pos : Pos} (hA : AOk A c.d) : ∀ {es : List Expr} {σ σ' : Sto} {s : Shared} {W : List Addr} {vs : List AV}, evAll R c ρ σ es = some (vs, σ') →
    FrOk h₀ env c.sc ρ s.heap W → SR prog w h₀ s.heap W σ → GivesL prog w h₀ W σ s A (spliced (backTo pos (starEach es env))) vs σ'
  | [], σ, σ', s, W, vs, e, f, S0 => by
    unfold evAll at e
    cases e
    exact fun E Q q => wpAny_items_nil (q s.heap s.toks W [] (Stp.refl _ _ _ _) S0 .nil)
  | x :: es, σ, σ', s, W, vs, e, f, S0 => by
    unfold evAll at e
    split at e
    · cases e
    · rename_i hns
      obtain ⟨⟨v, σ1⟩, e1, e⟩ := Option.bind_eq_some_iff.mp e
      obtain ⟨⟨us, σ2⟩, e2, e⟩ := Option.bind_eq_some_iff.mp e
      cases e
      intro E Q q
      refine wpAny_items_cons (ih c ρ σ x v σ1 e1 A env s W hA f S0 _ _ fun h1 tk1 W1 va S1 R1 ra => ?_) ?_
      · refine evAll_ok ih hA (s := { s with heap := h1, toks := tk1 }) e2 (f.stp S0 S1) R1 _ _ fun h2 tk2 W2 vals S2 R2 rs => ?_
        exact q h2 tk2 W2 _ (S1.trans S2) R2 (.cons (RV.stp S2 R1 (niNo _) ra) rs)
      · cases x <;> first | rfl | exact absurd rfl (hns _ _)

theorem ev_BinOp (ih : EvS prog w h₀ R.ev) {l r : Expr} {op : Operator} {pos : Pos} {v : AV} (e : ((R.ev c ρ σ l).bind fun a => (R.ev c ρ a.2 r).bind fun b => binOp b.2 op a.1 b.1) = some (v, σ')) (hA : AOk A c.d)
    (f : FrOk h₀ env c.sc ρ s.heap W) (S0 : SR prog w h₀ s.heap W σ) : Gives prog w h₀ NoF W σ s A (eval (.BinOp l op r pos) env) v σ' := by
  obtain ⟨⟨a, σ1⟩, e1, e⟩ := Option.bind_eq_some_iff.mp e
  obtain ⟨⟨b, σ2⟩, e2, e⟩ := Option.bind_eq_some_iff.mp e
  intro E Q q
  refine wpAny_BinOp (ih c ρ σ l a σ1 e1 A env s W hA f S0 _ _ fun h1 tk1 W1 va S1 R1 ra => ?_)
  refine ih c ρ σ1 r b σ2 e2 A env _ W1 hA (f.stp S0 S1) R1 _ _ fun h2 tk2 W2 vb S2 R2 rb => ?_
  refine binOp_ok (s := { s with heap := h2, toks := tk2 }) e R2 (RV.stp S2 R1 (niNo _) ra) rb _ _ fun h3 tk3 W3 vc S3 R3 rc => ?_
  exact q h3 tk3 W3 vc ((S1.trans S2).trans S3) R3 rc

theorem noSet_marks {r : Expr} (h : noSet r = true) (op : CmpOp) : behindInMarks op r = false := by
  cases r <;> first | rfl | (simp [noSet] at h)

theorem ev_UnaryOp (ih : EvS prog w h₀ R.ev) {x : Expr} {op : UnaryOp} {pos : Pos} {v : AV} (e : evStep K R c ρ σ (.UnaryOp op x pos) = some (v, σ')) (hA : AOk A c.d)
    (f : FrOk h₀ env c.sc ρ s.heap W) (S0 : SR prog w h₀ s.heap W σ) : Gives prog w h₀ NoF W σ s A (eval (.UnaryOp op x pos) env) v σ' := by
  simp only [evStep] at e
  intro E Q q
  refine wpAny_UnaryOp ?_
  split at e
  · obtain ⟨⟨a, σ1⟩, e1, e⟩ := Option.bind_eq_some_iff.mp e
    obtain ⟨t, e2, e⟩ := Option.bind_eq_some_iff.mp e
    cases e
    refine ih c ρ σ x a σ1 e1 A env s W hA f S0 _ _ fun h1 tk1 W1 va S1 R1 ra => ?_
    have e3 := truthOf_some e2
    simp only at e3
    subst e3
    cases ra
    exact not_value (wpAny_truthy_bool (q h1 tk1 W1 _ S1 R1 (.bool _)))
  · obtain ⟨⟨a, σ1⟩, e1, e⟩ := Option.bind_eq_some_iff.mp e
    refine ih c ρ σ x a σ1 e1 A env s W hA f S0 _ _ fun h1 tk1 W1 va S1 R1 ra => ?_
    simp only at e
    split at e
    · cases e
      cases ra
      exact P.neg_int (q h1 _ W1 _ S1 R1 (.int _ _))
    · cases e
  · cases e

theorem ev_Compare (B : Bs prog w K h₀) (ih : EvS prog w h₀ R.ev) {l : Expr} {ops : List CmpOp} {rs : List Expr} {pos : Pos} {v : AV} (e : evStep K R c ρ σ (.Compare l ops rs pos) = some (v, σ')) (hA : AOk A c.d)
    (f : FrOk h₀ env c.sc ρ s.heap W) (S0 : SR prog w h₀ s.heap W σ) : Gives prog w h₀ NoF W σ s A (eval (.Compare l ops rs pos) env) v σ' := by
  simp only [evStep] at e
  split at e
  · rename_i op r
    split at e
    · rename_i hs
      obtain ⟨⟨a, σ1⟩, e1, e⟩ := Option.bind_eq_some_iff.mp e
      obtain ⟨⟨b, σ2⟩, e2, e⟩ := Option.bind_eq_some_iff.mp e
      obtain ⟨t, e3, e⟩ := Option.bind_eq_some_iff.mp e
      cases e
      intro E Q q
      refine wpAny_Compare1 (ih c ρ σ l a σ1 e1 A env s W hA f S0 _ _ fun h1 tk1 W1 va S1 R1 ra => ?_) (noSet_marks hs op)
      refine ih c ρ σ1 r b σ2 e2 A env _ W1 hA (f.stp S0 S1) R1 _ _ fun h2 tk2 W2 vb S2 R2 rb => ?_
      refine cmpOp_ok (s := { s with heap := h2, toks := tk2 }) B.sys e3 (by have := hA.un; omega) R2 (RV.stp S2 R1 (niNo _) ra) rb _ _ fun tk3 => ?_
      exact q h2 tk3 W2 _ (S1.trans S2) R2 (.bool _)
    · cases e
  · cases e

theorem tr_plain (ih : EvS prog w h₀ R.ev) {x : Expr} {whole : Sem Value} {t : Bool} (e : ((R.ev c ρ σ x).bind fun p => (truthOf p.1).bind fun t => some (t, p.2)) = some (t, σ')) (hA : AOk A c.d)
    (f : FrOk h₀ env c.sc ρ s.heap W) (S0 : SR prog w h₀ s.heap W σ) (hw : isTrue x env (eval x env) = (do let v ← eval x env; standAt x.pos; holding [v] (truthy v))) :
    GivesB prog w h₀ NoF W σ s A (isTrue x env (eval x env)) t σ' := by
  obtain ⟨⟨a, σ1⟩, e1, e⟩ := Option.bind_eq_some_iff.mp e
  obtain ⟨t', e2, e⟩ := Option.bind_eq_some_iff.mp e
  have e3 := truthOf_some e2
  simp only at e3
  subst e3
  cases e
  intro E Q q
  refine wpAny_isTrue_value (ih c ρ σ x _ σ1 e1 A env s W hA f S0 _ _ fun h1 tk1 W1 va S1 R1 ra => ?_) hw
  cases ra
  exact wpAny_truthy_bool (q h1 tk1 W1 S1 R1)

theorem ev_IfExp (ih : EvS prog w h₀ R.ev) (iht : TrS prog w h₀ R.tr) {t a b : Expr} {pos : Pos} {v : AV} (e : evStep K R c ρ σ (.IfExp t a b pos) = some (v, σ')) (hA : AOk A c.d)
    (f : FrOk h₀ env c.sc ρ s.heap W) (S0 : SR prog w h₀ s.heap W σ) : Gives prog w h₀ NoF W σ s A (eval (.IfExp t a b pos) env) v σ' := by
  simp only [evStep] at e
  obtain ⟨⟨r, σ1⟩, e1, e⟩ := Option.bind_eq_some_iff.mp e
  intro E Q q
  refine wpAny_IfExp (iht c ρ σ t r σ1 e1 A env s W hA f S0 _ _ fun h1 tk1 W1 S1 R1 => ?_)
  cases r with
  | true => exact ih c ρ σ1 a v σ' e A env _ W1 hA (f.stp S0 S1) R1 _ _ fun h2 tk2 W2 vb S2 R2 rb => q h2 tk2 W2 vb (S1.trans S2) R2 rb
  | false => exact ih c ρ σ1 b v σ' e A env _ W1 hA (f.stp S0 S1) R1 _ _ fun h2 tk2 W2 vb S2 R2 rb => q h2 tk2 W2 vb (S1.trans S2) R2 rb

theorem boolVals_ok (ih : EvS prog w h₀ R.ev) {op : BoolOp} {pos : Pos} (hA : AOk A c.d) : ∀ {es : List Expr} {σ σ' : Sto} {s : Shared} {W : List Addr} {v : AV}, boolVals R c ρ op σ es = some (v, σ') →
    FrOk h₀ env c.sc ρ s.heap W → SR prog w h₀ s.heap W σ → Gives prog w h₀ NoF W σ s A (boolOp pos op (evalEach es env)) v σ'
  | [], σ, σ', s, W, v, e, f, S0 => by simp [boolVals] at e
  | [x], σ, σ', s, W, v, e, f, S0 => by
    simp only [boolVals] at e
    exact ih c ρ σ x v σ' e A env s W hA f S0
  | x :: y :: es, σ, σ', s, W, v, e, f, S0 => by
    unfold boolVals at e
    simp only at e
    obtain ⟨⟨a, σ1⟩, e1, e⟩ := Option.bind_eq_some_iff.mp e
    obtain ⟨t, e2, e⟩ := Option.bind_eq_some_iff.mp e
    intro E Q q
    show wpAny (model prog w) A (do
      let v ← eval x env
      standAt pos
      let t ← holding [v] (truthy v)
      match op, t with
      | .And, false | .Or, true => pure v
      | _, _ => boolOp pos op (evalEach (y :: es) env)) Q E s
    refine wpAny_bind (ih c ρ σ x a σ1 e1 A env s W hA f S0 _ _ fun h1 tk1 W1 va S1 R1 ra => ?_)
    refine wpAny_bind (wpAny_standAt (wpAny_bind (wpAny_holding ?_)))
    have e3 := truthOf_some e2
    simp only at e3
    subst e3
    · cases ra
      refine wpAny_truthy_bool ?_
      have go : boolVals R c ρ op σ1 (y :: es) = some (v, σ') → wpAny (model prog w) A (boolOp pos op (evalEach (y :: es) env)) Q E { s with heap := h1, toks := tk1 } := fun e =>
        boolVals_ok ih hA (s := { s with heap := h1, toks := tk1 }) e (f.stp S0 S1) R1 _ _ fun h2 tk2 W2 vb S2 R2 rb => q h2 tk2 W2 vb (S1.trans S2) R2 rb
      cases op with
      | And => cases t with
        | false => cases e; exact wpAny_pure (q h1 tk1 W1 _ S1 R1 (.bool _))
        | true => exact go e
      | Or => cases t with
        | true => cases e; exact wpAny_pure (q h1 tk1 W1 _ S1 R1 (.bool _))
        | false => exact go e

theorem trAll_ok (iht : TrS prog w h₀ R.tr) {op : BoolOp} (hA : AOk A c.d) : ∀ {es : List Expr} {σ σ' : Sto} {s : Shared} {W : List Addr} {t : Bool}, trAll R c ρ op σ es = some (t, σ') →
    FrOk h₀ env c.sc ρ s.heap W → SR prog w h₀ s.heap W σ → GivesB prog w h₀ NoF W σ s A (allTrue op es env) t σ'
  | [], σ, σ', s, W, t, e, f, S0 => by
    intro E Q q
    unfold trAll at e
    cases op <;> (cases e; exact wpAny_pure (q s.heap s.toks W (Stp.refl _ _ _ _) S0))
  | x :: es, σ, σ', s, W, t, e, f, S0 => by
    unfold trAll at e
    obtain ⟨⟨r, σ1⟩, e1, e⟩ := Option.bind_eq_some_iff.mp e
    intro E Q q
    have go : ∀ {h1 tk1 W1}, Stp NoF s.heap W σ h1 W1 σ1 → SR prog w h₀ h1 W1 σ1 → trAll R c ρ op σ1 es = some (t, σ') → wpAny (model prog w) A (allTrue op es env) Q E { s with heap := h1, toks := tk1 } := fun {h1 tk1 W1} S1 R1 e =>
      trAll_ok iht hA (s := { s with heap := h1, toks := tk1 }) e (f.stp S0 S1) R1 _ _ fun h2 tk2 W2 S2 R2 => q h2 tk2 W2 (S1.trans S2) R2
    cases op with
    | And =>
      refine wpAny_allTrue_And_cons (iht c ρ σ x r σ1 e1 A env s W hA f S0 _ _ fun h1 tk1 W1 S1 R1 => ?_)
      cases r with
      | false => cases e; exact q h1 tk1 W1 S1 R1
      | true => exact go S1 R1 e
    | Or =>
      refine wpAny_allTrue_Or_cons (iht c ρ σ x r σ1 e1 A env s W hA f S0 _ _ fun h1 tk1 W1 S1 R1 => ?_)
      cases r with
      | true => cases e; exact q h1 tk1 W1 S1 R1
      | false => exact go S1 R1 e

theorem tr_step (B : Bs prog w K h₀) (ih : EvS prog w h₀ R.ev) (iht : TrS prog w h₀ R.tr) : TrS prog w h₀ (trStep R) := by
  intro c ρ σ x t σ' e A env s W hA f S0
  cases x with
  | UnaryOp op x pos =>
    cases op <;> simp only [trStep] at e <;> (try (cases e; done))
    obtain ⟨⟨a, σ1⟩, e1, e⟩ := Option.bind_eq_some_iff.mp e
    cases e
    intro E Q q
    exact wpAny_isTrue_Not (iht c ρ σ x a σ1 e1 A env s W hA f S0 _ _ fun h1 tk1 W1 S1 R1 => q h1 tk1 W1 S1 R1)
  | BoolOp op vs pos =>
    simp only [trStep] at e
    intro E Q q
    exact wpAny_isTrue_BoolOp (trAll_ok iht hA e f S0 _ _ q)
  | IfExp a b d pos => simp [trStep] at e
  | Compare l ops rs pos =>
    simp only [trStep] at e
    split at e
    · rename_i op r
      split at e
      · rename_i hs
        obtain ⟨⟨a, σ1⟩, e1, e⟩ := Option.bind_eq_some_iff.mp e
        obtain ⟨⟨b, σ2⟩, e2, e⟩ := Option.bind_eq_some_iff.mp e
        obtain ⟨t, e3, e⟩ := Option.bind_eq_some_iff.mp e
        cases e
        intro E Q q
        refine wpAny_isTrue_Compare1 (ih c ρ σ l a σ1 e1 A env s W hA f S0 _ _ fun h1 tk1 W1 va S1 R1 ra => ?_) (noSet_marks hs op)
        refine ih c ρ σ1 r b σ2 e2 A env _ W1 hA (f.stp S0 S1) R1 _ _ fun h2 tk2 W2 vb S2 R2 rb => ?_
        refine cmpOp_ok (s := { s with heap := h2, toks := tk2 }) B.sys e3 (by have := hA.un; omega) R2 (RV.stp S2 R1 (niNo _) ra) rb _ _ fun tk3 => ?_
        exact wpAny_truthy_bool (q h2 tk3 W2 (S1.trans S2) R2)
      · cases e
    · cases e
  | _ => exact tr_plain ih (whole := pure .none) (by simpa only [trStep] using e) hA f S0 rfl

theorem ev_Tuple (ih : EvS prog w h₀ R.ev) {es : List Expr} {k : Nat} {pos : Pos} {v : AV} (e : evStep K R c ρ σ (.Tuple es k pos) = some (v, σ')) (hA : AOk A c.d)
    (f : FrOk h₀ env c.sc ρ s.heap W) (S0 : SR prog w h₀ s.heap W σ) : Gives prog w h₀ NoF W σ s A (eval (.Tuple es k pos) env) v σ' := by
  simp only [evStep] at e
  obtain ⟨⟨vs, σ1⟩, e1, e⟩ := Option.bind_eq_some_iff.mp e
  split at e
  · rename_i hs
    cases e
    intro E Q q
    refine wpAny_Tuple (evAll_ok ih hA e1 f S0 _ _ fun h1 tk1 W1 vals S1 R1 rs => ⟨?_, ?_⟩)
    · have := small_sz hs
      have h2 := rs.length
      rw [sizeLine_eq]
      simp only at this
      omega
    · obtain ⟨R2, S2, r2⟩ := newTup R1 rs
      exact q _ tk1 W1 _ (S1.trans S2) R2 r2
  · cases e
theorem ev_List (ih : EvS prog w h₀ R.ev) {es : List Expr} {pos : Pos} {v : AV} (e : evStep K R c ρ σ (.List es pos) = some (v, σ')) (hA : AOk A c.d)
    (f : FrOk h₀ env c.sc ρ s.heap W) (S0 : SR prog w h₀ s.heap W σ) : Gives prog w h₀ NoF W σ s A (eval (.List es pos) env) v σ' := by
  simp only [evStep] at e
  obtain ⟨⟨vs, σ1⟩, e1, e⟩ := Option.bind_eq_some_iff.mp e
  split at e
  · rename_i hs
    cases e
    intro E Q q
    refine wpAny_List (evAll_ok ih hA e1 f S0 _ _ fun h1 tk1 W1 vals S1 R1 rs => ⟨?_, ?_⟩)
    · have := small_sz hs
      have h2 := rs.length
      rw [sizeLine_eq]
      simp only at this
      omega
    · obtain ⟨R2, S2, r2⟩ := newList R1 rs
      exact q _ tk1 _ _ (S1.trans S2) R2 r2
  · cases e
end
end Mine
end
section
open PySem PySem.W PySem.SeqAt PyProof.Rows
set_option maxRecDepth 100000
set_option linter.unusedVariables false
namespace Mine
section
variable {prog : Program} {w : World} {K : Frag} {h₀ : Heap} {W : List Addr} {σ σ' : Sto} {s : Shared} {A : Around} {env : Env} {c : Cx} {ρ : Rho} {R : Rec}

theorem evOpt_ok (ih : EvS prog w h₀ R.ev) {x : Option Expr} {v : AV} (e : evOpt R c ρ σ x = some (v, σ')) (hA : AOk A c.d) (f : FrOk h₀ env c.sc ρ s.heap W) (S0 : SR prog w h₀ s.heap W σ) :
    Gives prog w h₀ NoF W σ s A (evalPart x env) v σ' := by
  cases x with
  | none => cases e; exact fun E Q q => wpAny_pure (q s.heap s.toks W _ (Stp.refl _ _ _ _) S0 .none)
  | some x => exact ih c ρ σ x v σ' e A env s W hA f S0

theorem cut_ok {h : Heap} {xs : List AV} {vs : Array Value} {l u : AV} {ys : List AV} {vl vu : Value} (e : cut xs l u = some ys) (rs : RVs h₀ h W xs vs.toList) (rl : RV h₀ h W l vl) (ru : RV h₀ h W u vu) :
    ∃ lo hi, IsPart vl lo ∧ IsPart vu hi ∧ RVs h₀ h W ys (slicePick vs lo hi none).toList := by
  unfold cut at e
  split at e
  · cases e
    cases rl; cases ru
    refine ⟨none, some _, .none, .int _ _, ?_⟩
    rw [show (Int.ofNat _ : Int) = ((_ : Nat) : Int) from rfl, slicePick_upto']
    simpa using RVs.take _ rs
  · cases e
    cases rl; cases ru
    refine ⟨some _, none, .int _ _, .none, ?_⟩
    rw [show (Int.ofNat _ : Int) = ((_ : Nat) : Int) from rfl, slicePick_from']
    simpa using RVs.drop _ rs
  · cases e

theorem tail_slice {value : Expr} {lo up : Option Expr} {p : Pos} {o i : Value} {T id : String} {Q E : Value → Shared → Prop} (hT : s.TypeIs o T)
    (hl : typeLookup (.type T) "__getitem__" = pure (some (.builtin id))) (hg : wpAny (model prog w) A (getItem o i) Q E s) : wpAny (model prog w) A (subscriptTail value (.Slice lo up none p) o i) Q E s :=
  tail_any (ops := [i, o]) hT hl hg rfl
theorem tail_item {value sl : Expr} {o i : Value} {T id : String} {Q E : Value → Shared → Prop} (hn : ∀ l u p, sl ≠ .Slice l u none p) (hT : s.TypeIs o T)
    (hl : typeLookup (.type T) "__getitem__" = pure (some (.builtin id))) (hg : wpAny (model prog w) A (getItem o i) Q E s) : wpAny (model prog w) A (subscriptTail value sl o i) Q E s := by
  refine tail_any (ops := [o, i]) hT hl hg ?_
  cases sl <;> first | rfl | skip
  rename_i l u st p
  cases st with
  | none => exact absurd rfl (hn l u p)
  | some x => rfl

theorem pushSlice {h : Heap} {W : List Addr} {σ : Sto} (R : SR prog w h₀ h W σ) (a b c : Value) :
    SR prog w h₀ (h.push { cls := .type "slice", data := .fields #[a, b, c] }) W σ ∧ Stp NoF h W σ (h.push { cls := .type "slice", data := .fields #[a, b, c] }) W σ :=
  R.grow0 (fun b o e => Heap.get?_push_of_some _ e)

theorem sliced_ok {value : Expr} {lo up : Option Expr} {p : Pos} {o l u v : AV} {vo vl vu : Value} (e : sliced σ o l u = some (v, σ')) (R : SR prog w h₀ s.heap W σ) (ro : RV h₀ s.heap W o vo) (rl : RV h₀ s.heap W l vl) (ru : RV h₀ s.heap W u vu) :
    ∀ (E Q : Value → Shared → Prop), (∀ h' tk W' val, Stp NoF s.heap W σ h' W' σ' → SR prog w h₀ h' W' σ' → RV h₀ h' W' v val → Q val { s with heap := h', toks := tk }) →
      wpAny (model prog w) A (subscriptTail value (.Slice lo up none p) vo (.ref s.heap.objs.size)) Q E { s with heap := s.heap.push { cls := .type "slice", data := .fields #[vl, vu, .none] } } := by
  intro E Q q
  obtain ⟨R1, S1⟩ := pushSlice R vl vu .none
  have ro1 := RV.stp S1 R (niNo _) ro
  have rl1 := RV.stp S1 R (niNo _) rl
  have ru1 := RV.stp S1 R (niNo _) ru
  unfold sliced at e
  split at e
  · rename_i xs
    cases l with
    | int i => cases i with
      | ofNat a => cases u with
        | none =>
          simp only at e
          split at e <;> (try (cases e; done))
          rename_i h1
          split at e <;> (try (cases e; done))
          rename_i h2
          split at e <;> (try (cases e; done))
          rename_i h3
          cases e
          cases rl; cases ru
          obtain ⟨t, vs, rfl, ht, rs⟩ := ro1.tup_inv
          have hl := rs.length
          have hz := small_sz h3
          have hln : vs.toList.length = vs.size := Array.length_toList
          have ha : a ≤ vs.size := by
            have := Nat.le_of_ble_eq_true h2
            rw [lenN_eq] at this
            rw [hl, Array.length_toList] at this
            exact this
          refine tail_slice ht.typeIs slot_tuple_getitem.lookup (getItem_tuple_from ht (Heap.IsSliceOf.new ..) (Nat.le_of_ble_eq_true h1) ha ?_ ?_)
          · obtain ⟨R2, S2, r2⟩ := newTup R1 (RVs.drop a rs)
            exact q _ s.toks W _ (S1.trans S2) R2 r2
          · rw [sizeLine_eq]
            omega
        | _ => simp at e
      | negSucc a => simp at e
    | _ => simp at e
  · rename_i i
    obtain ⟨xs, e1, e⟩ := Option.bind_eq_some_iff.mp e
    split at e
    · rename_i h3
      obtain ⟨ys, e2, e⟩ := Option.bind_eq_some_iff.mp e
      cases e
      obtain ⟨a, rfl, ha⟩ := ro1.ref_inv
      obtain ⟨vs, hl, rs⟩ := R1.list ha e1
      obtain ⟨lo', hi', p1, p2, rp⟩ := cut_ok e2 rs rl1 ru1
      have hz := small_sz h3
      have hlen := rs.length
      have hln : vs.toList.length = vs.size := Array.length_toList
      refine tail_slice hl.typeIs slot_list_getitem.lookup (wpAny_getItem_list_slice hl (Heap.IsSliceOf.new ..) p1 p2 .none (by simp) ?_ ?_)
      · obtain ⟨R2, S2, r2⟩ := newList R1 rp
        simp only [Array.toArray_toList] at R2 S2 r2
        exact q _ s.toks _ _ (S1.trans S2) R2 r2
      · rw [sizeLine_eq]
        omega
    · cases e
  · rename_i xs
    split at e
    · split at e
      · rename_i i h6
        cases e
        have hi := (Z.eqB_iff _ _).mp h6
        subst hi
        cases rl; cases ru
        cases ro1 with
        | scr hl0 hz rs =>
          rename_i a vs
          obtain ⟨o, ho, qo⟩ := hl0
          have hl : Heap.IsList _ a vs := ⟨o, R1.old _ _ ho, qo⟩
          refine tail_slice hl.typeIs slot_list_getitem.lookup (wpAny_getItem_list_slice hl (Heap.IsSliceOf.new ..) .none (.int 6 _) .none (by simp) ?_ ?_)
          · rw [show (6 : Int) = ((6 : Nat) : Int) from rfl, slicePick_upto']
            obtain ⟨R2, S2, r2⟩ := newList R1 rs
            exact q _ s.toks _ _ (S1.trans S2) R2 r2
          · rw [sizeLine_eq]; omega
      · cases e
    · cases e
  · cases e

theorem nthS_some {α : Type} {xs : List α} {n : Nat} {x : α} (e : nthS xs n = some x) : n < 1000000 ∧ nth xs n = some x := by
  unfold nthS at e
  split at e
  · rename_i h; exact ⟨Nat.le_of_ble_eq_true h, e⟩
  · cases e

open Classical in
theorem item_ok (B : Bs prog w K h₀) {value sl : Expr} (hn : ∀ l u p, sl ≠ .Slice l u none p) {o k v : AV} {vo vk : Value} (e : item K σ o k = some v) (hu : A.units + 30 < cLine) (R : SR prog w h₀ s.heap W σ) (ro : RV h₀ s.heap W o vo)
    (rk : RV h₀ s.heap W k vk) : ∀ (E Q : Value → Shared → Prop), (∀ tk val, RV h₀ s.heap W v val → Q val { s with toks := tk }) → wpAny (model prog w) A (subscriptTail value sl vo vk) Q E s := by
  intro E Q q
  unfold item at e
  split at e
  · rename_i xs i
    split at e
    · rename_i n
      obtain ⟨hlt, e⟩ := nthS_some e
      obtain ⟨t, vs, rfl, ht, rs⟩ := ro.tup_inv
      obtain ⟨val, e1, rv⟩ := rs.nth e
      cases rk
      have hlt2 : n < vs.size := by rw [← Array.length_toList]; exact (List.getElem?_eq_some_iff.mp e1).1
      refine tail_item hn ht.typeIs slot_tuple_getitem.lookup (PyProof.Rows.getItem_tuple (j := n) ht (by rw [Int.ofNat_eq_natCast]; omega) (by rw [Int.ofNat_eq_natCast]; omega) ?_ ?_ (q s.toks val rv))
      · unfold seqIndex?
        have : ¬ (Int.ofNat n < 0) := by rw [Int.ofNat_eq_natCast]; omega
        simp only [this, if_false]
        simp [hlt2]
      · rw [← Array.getElem?_toList]; exact e1
    · cases e
  · rename_i a x
    obtain ⟨mp, i, t, rfl, hm, hx⟩ := B.gd a x v e
    cases ro; cases rk
    have hm' : s.heap.MapOf (PySem.strKind prog w) a mp := by
      obtain ⟨o, es, ep, ho, q⟩ := hm
      exact ⟨o, es, ep, R.old _ _ ho, q⟩
    exact tail_item hn hm'.typeIs slot_dict_getitem.lookup (wpAny_getItem_of (strKind_is prog w x _) hm' hx (q _ _ (.int i t)))
  · obtain ⟨a, rfl, ha⟩ := ro.ref_inv
    split at e
    · rename_i xs ver hg
      have rc := R.cell _ a _ ha hg
      obtain ⟨vs, hl, rs⟩ := rc
      replace hl := hl.isList
      split at e
      · split at e
        · rename_i n
          obtain ⟨hlt, e⟩ := nthS_some e
          obtain ⟨val, e1, rv⟩ := rs.nth e
          cases rk
          refine tail_item hn hl.typeIs slot_list_getitem.lookup (wpAny_getItem_list hl (by rw [Int.ofNat_eq_natCast]; omega) (by rw [Int.ofNat_eq_natCast]; omega) ?_ (q s.toks val rv))
          rw [← Array.getElem?_toList]; exact e1
        · cases e
      · cases e
    · rename_i es ver hg
      have rc := R.cell _ a _ ha hg
      split at e
      · rename_i hk
        obtain ⟨ov, e1, e⟩ := Option.bind_eq_some_iff.mp e
        rcases keyFits_ok hk with ⟨x, rfl⟩ | ⟨xs, rfl, hd⟩
        · obtain ⟨kvs, hm, hks, rvs⟩ := DS.of hk rc
          cases rk
          rcases dFind_S hks rvs e1 with ⟨h1, _⟩ | ⟨v', val, h1, h2, h3⟩
          · subst h1; cases e
          · subst h1; cases e
            exact tail_item hn hm.typeIs slot_dict_getitem.lookup (wpAny_getItem_of (strKind_is prog w x _) hm.mapOf h2 (q _ _ h3))
        · obtain ⟨ys, hm, hks, rvs⟩ := DD.of hk rc
          obtain ⟨a', vs, rfl, ht, rs'⟩ := rk.tup_inv
          rcases dFind_D hd hks (DD.dat (es := es) hm) rvs e1 with ⟨h1, _⟩ | ⟨v', p, h1, h2, h3⟩
          · subst h1; cases e
          · subst h1; cases e
            exact tail_item hn hm.typeIs slot_dict_getitem.lookup (wpAny_getItem_heap (knd := datKind prog w) (k := .tup xs) (xs := ys) (by show A.units + 1 + 10 < cLine; omega) ⟨⟨xs, rfl⟩, hd, RV.dat 8 hd rk⟩ hm h2 (q _ _ h3))
      · cases e
    · cases e
  · cases e

theorem ev_Subscript (B : Bs prog w K h₀) (ih : EvS prog w h₀ R.ev) {o i : Expr} {pos : Pos} {v : AV} (e : evStep K R c ρ σ (.Subscript o i pos) = some (v, σ')) (hA : AOk A c.d)
    (f : FrOk h₀ env c.sc ρ s.heap W) (S0 : SR prog w h₀ s.heap W σ) : Gives prog w h₀ NoF W σ s A (eval (.Subscript o i pos) env) v σ' := by
  intro E Q q
  refine Subscript_ ?_
  simp only [evStep] at e
  split at e
  · rename_i l u st p
    split at e
    · obtain ⟨⟨x, σ1⟩, e1, e⟩ := Option.bind_eq_some_iff.mp e
      obtain ⟨⟨a, σ2⟩, e2, e⟩ := Option.bind_eq_some_iff.mp e
      obtain ⟨⟨b, σ3⟩, e3, e⟩ := Option.bind_eq_some_iff.mp e
      refine ih c ρ σ o x σ1 e1 A env s W hA f S0 _ _ fun h1 tk1 W1 vx S1 R1 rx => ?_
      have f1 := f.stp S0 S1
      refine wpAny_Slice (evOpt_ok ih (s := { s with heap := h1, toks := tk1 }) e2 hA f1 R1 _ _ fun h2 tk2 W2 va S2 R2 ra => ?_)
      have f2 := f1.stp R1 S2
      refine evOpt_ok ih (s := { s with heap := h2, toks := tk2 }) e3 hA f2 R2 _ _ fun h3 tk3 W3 vb S3 R3 rb => ?_
      refine wpAny_pure ?_
      refine sliced_ok (s := { s with heap := h3, toks := tk3 }) e R3 (RV.stp S3 R2 (niNo _) (RV.stp S2 R1 (niNo _) rx)) (RV.stp S3 R2 (niNo _) ra) rb _ _ fun h4 tk4 W4 vd S4 R4 rd => ?_
      exact q h4 tk4 W4 vd (((S1.trans S2).trans S3).trans S4) R4 rd
    · cases e
  · rename_i hns
    obtain ⟨⟨x, σ1⟩, e1, e⟩ := Option.bind_eq_some_iff.mp e
    obtain ⟨⟨k, σ2⟩, e2, e⟩ := Option.bind_eq_some_iff.mp e
    obtain ⟨y, e3, e⟩ := Option.bind_eq_some_iff.mp e
    cases e
    refine ih c ρ σ o x σ1 e1 A env s W hA f S0 _ _ fun h1 tk1 W1 vx S1 R1 rx => ?_
    refine ih c ρ σ1 i k σ2 e2 A env _ W1 hA (f.stp S0 S1) R1 _ _ fun h2 tk2 W2 vk S2 R2 rk => ?_
    refine item_ok B (s := { s with heap := h2, toks := tk2 }) (fun l u p e => hns l u none p e) e3 (by have := hA.un; omega) R2 (RV.stp S2 R1 (niNo _) rx) rk _ _ fun tk3 val rv => ?_
    exact q h2 tk3 W2 val (S1.trans S2) R2 rv

-- an object made before, that becomes a cell
theorem SR.adopt {h h1 h' : Heap} {W1 : List Addr} {σ1 : Sto} {o : Obj} {b : Body} (R : SR prog w h₀ h W σ) (S1 : Stp NoF (h.push o) W σ h1 W1 σ1) (R1 : SR prog w h₀ h1 W1 σ1) (so : Mine.soft o = true) (hf : o.isFreed = false) (hs : Heap.SameBut h.objs.size h1 h')
    (hc : RC prog w h₀ h' (W1 ++ [h.objs.size]) b h.objs.size) :
    SR prog w h₀ h' (W1 ++ [h.objs.size]) (σ1.new b) ∧ Stp NoF h W σ h' (W1 ++ [h.objs.size]) (σ1.new b) := by
  have ha : h.objs.size ∉ W := fun m => Nat.lt_irrefl _ (R.lt m)
  have hpo : (h.push o).get? h.objs.size = some o := Heap.get?_push_size _ hf
  have ha1 : h.objs.size ∉ W1 := S1.newer hpo ha
  have hkp : ∀ b o', h.get? b = some o' → (h.push o).get? b = some o' := fun b o' e => Heap.get?_push_of_some _ e
  have ho1 : h1.get? h.objs.size = some o := S1.keep _ _ ha (fun q => q) (Heap.get?_push_size _ hf)
  have same : ∀ x, x ≠ h.objs.size → h'.get? x = h1.get? x := hs.2
  have keep : ∀ b o, b ≠ h.objs.size → h1.get? b = some o → h'.get? b = some o := fun b o q e => (same b q).trans e
  have ni : NI (fun b => b = h.objs.size) h1 := fun b o' q e => by subst q; rw [ho1] at e; cases e; exact soft_ni so
  refine ⟨⟨by simp [Sto.new, R1.n], by simp [Sto.new, R1.cs], fun i x c e ec => ?_, ?_, ?_, fun x o' e => keep x o' ?_ (R1.old x o' e)⟩, ⟨?_, fun x o' m _ e => ?_, ?_, fun i c e => ?_⟩⟩
  · rw [Sto.new_get] at ec
    by_cases hi : i = σ1.n
    · subst hi
      rw [if_pos rfl] at ec
      cases ec
      have : (W1 ++ [h.objs.size])[σ1.n]? = some h.objs.size := by rw [← R1.n]; simp
      rw [this] at e; cases e
      exact hc
    · rw [if_neg hi] at ec
      have hlt : i < W1.length := by rw [R1.n]; exact Sto.get_lt ec
      rw [List.getElem?_append_left hlt] at e
      exact RC.keep (P := fun b => b = h.objs.size) keep ni (fun j y ey => by rw [List.getElem?_append_left (List.getElem?_eq_some_iff.mp ey).1]; exact ey)
        (same x (fun q => ha1 (q ▸ List.mem_of_getElem? e))) (R1.cell i x c e ec)
  · rw [List.nodup_append]
    refine ⟨R1.nd, by simp, fun x hx y hy => ?_⟩
    simp only [List.mem_singleton] at hy
    subst hy
    exact fun e => ha1 (e ▸ hx)
  · intro x m
    rcases List.mem_append.mp m with m | m
    · exact R1.ab x m
    · simp only [List.mem_singleton] at m
      subst m
      cases q : h₀.get? h.objs.size with
      | none => rfl
      | some o' => exact absurd (Heap.lt_size (R.old _ _ q)) (Nat.lt_irrefl _)
  · intro q
    subst q
    exact absurd (Heap.lt_size (R.old _ _ e)) (Nat.lt_irrefl _)
  · obtain ⟨X, rfl, hX⟩ := S1.ext
    refine ⟨X ++ [h.objs.size], by simp, fun a m => ?_⟩
    rcases List.mem_append.mp m with m | m
    · cases q : h.get? a with
      | none => rfl
      | some o' => have := hX a m; rw [hkp a o' q] at this; cases this
    · simp only [List.mem_singleton] at m
      subst m
      exact top_none h
  · have hx := Heap.lt_size e
    exact keep x o' (Nat.ne_of_lt hx) (S1.keep x o' m (fun q => q) (Heap.get?_push_of_some _ e))
  · intro x o' e
    by_cases q : x = h.objs.size
    · subst q; rw [top_none] at e; cases e
    · obtain ⟨o1, e1⟩ := S1.live x o' (hkp x o' e)
      exact ⟨o1, keep x o1 q e1⟩
  · obtain ⟨c', e', l', q'⟩ := S1.ver i c e
    refine ⟨c', ?_, l', fun q => ⟨(q' q).1, fun a ea => ?_⟩⟩
    · rw [Sto.new_get, if_neg (Nat.ne_of_lt (Sto.get_lt e'))]; exact e'
    · have m := List.mem_of_getElem? ea
      have hne : a ≠ h.objs.size := fun q => ha (q ▸ m)
      rw [same a hne, (q' q).2 a ea]
      obtain ⟨o', e', _⟩ := R.obj m
      rw [e', Heap.get?_push_of_some _ e']

theorem ev_Dict (ih : EvS prog w h₀ R.ev) {ks : List (Option Expr)} {vs : List Expr} {pos : Pos} {v : AV} (e : evStep K R c ρ σ (.Dict ks vs pos) = some (v, σ')) (hA : AOk A c.d)
    (f : FrOk h₀ env c.sc ρ s.heap W) (S0 : SR prog w h₀ s.heap W σ) : Gives prog w h₀ NoF W σ s A (eval (.Dict ks vs pos) env) v σ' := by
  intro E Q q
  simp only [evStep] at e
  split at e
  · cases e
    refine wpAny_Dict_empty ?_
    obtain ⟨R2, S2⟩ := S0.new (h' := s.heap.push { cls := .type "dict", data := .dict #[] }) (b := .dict []) (a := s.heap.objs.size) (fun b o e => Heap.get?_push_of_some _ e) (top_none _)
      (.inl ⟨[], Heap.DictOf.new _, rfl, .nil⟩)
    exact q _ s.toks _ _ S2 R2 (.ref (by rw [← S0.n]; simp))
  · rename_i k vx
    obtain ⟨⟨a, σ1⟩, e1, e⟩ := Option.bind_eq_some_iff.mp e
    obtain ⟨⟨b, σ2⟩, e2, e⟩ := Option.bind_eq_some_iff.mp e
    have ha : ∃ x, a = .str x := by
      cases a <;> first | exact ⟨_, rfl⟩ | (simp at e)
    obtain ⟨x, rfl⟩ := ha
    have hvv : v = .ref σ2.n ∧ σ' = σ2.new (.dict [(.str x, b)]) := by simpa [eq_comm] using e
    obtain ⟨rfl, rfl⟩ := hvv
    have k0 : ∀ b o, s.heap.get? b = some o → (s.heap.push { cls := .type "dict", data := .dict #[] }).get? b = some o := fun b o e => Heap.get?_push_of_some _ e
    obtain ⟨Rp, Sp⟩ := S0.grow0 (h' := s.heap.push { cls := .type "dict", data := .dict #[] }) k0
    have fp := f.stp S0 Sp
    refine wpAny_Dict_pairs (knd := PySem.strKind prog w) (pairs := [(eval k env, do let x ← eval vx env; standAt pos; pure x)]) (by rfl) (by simp) (by simp) ?_
    refine evalPairs_cons (ih c ρ σ k (.str x) σ1 e1 A env _ W hA fp Rp _ _ fun h1 tk1 W1 va S1 R1 ra => ?_)
    refine wpAny_bind (ih c ρ σ1 vx b σ2 e2 A env { s with heap := h1, toks := tk1 } W1 hA (fp.stp Rp S1) R1 _ _ fun h2 tk2 W2 vb S2 R2 rb => ?_)
    refine wpAny_bind (wpAny_standAt (wpAny_pure ?_))
    refine evalPairs_nil ?_
    have ra2 := RV.stp S2 R1 (niNo _) ra
    cases ra2
    have hd : h2.DictOf (PySem.strKind prog w) s.heap.objs.size [] := by
      have S12 := S1.trans S2
      obtain ⟨o, es, ep, ho, q⟩ := Heap.DictOf.new (knd := PySem.strKind prog w) s.heap
      exact ⟨o, es, ep, S12.keep _ _ (fun m => Nat.lt_irrefl _ (S0.lt m)) (fun q => q) ho, q⟩
    refine ⟨[(x, vb)], ⟨strKind_is prog w x _, rfl, trivial⟩, hd, fun h' hd' hs => ?_⟩
    have S12 := S1.trans S2
    have rvs : RVs h₀ h' (W2 ++ [s.heap.objs.size]) [b] [vb] := by
      refine .cons ?_ .nil
      refine RV.keep (P := fun b => b = s.heap.objs.size) (fun b o q e => (hs.2 b q).trans e) (fun b o q e => ?_) (fun j y ey => by rw [List.getElem?_append_left (List.getElem?_eq_some_iff.mp ey).1]; exact ey) rb
      subst q
      have := S12.keep s.heap.objs.size _ (fun m => Nat.lt_irrefl _ (S0.lt m)) (fun q => q) (Heap.get?_push_size _ rfl)
      rw [this] at e
      cases e
      rfl
    obtain ⟨R3, S3⟩ := SR.adopt (b := .dict [(.str x, b)]) S0 S12 R2 (by rfl) (by rfl) hs (.inl ⟨[(x, vb)], hd', rfl, rvs⟩)
    exact q h' _ _ _ S3 R3 (.ref (by rw [← R2.n]; simp))
  · cases e
end
end Mine
end
section
open PySem PySem.W PySem.SeqAt PyProof.Rows
set_option maxRecDepth 100000
set_option linter.unusedVariables false
namespace Mine
section
variable {prog : Program} {w : World} {K : Frag} {h₀ : Heap} {W : List Addr} {σ σ' : Sto} {s : Shared} {A : Around} {env : Env} {c : Cx} {ρ : Rho} {R : Rec}

theorem Gives.stay {t : Sem Value} {v : AV} {val : Value} (R : SR prog w h₀ s.heap W σ) (rv : RV h₀ s.heap W v val) (h : ∀ (E Q : Value → Shared → Prop), (∀ tk, Q val { s with toks := tk }) → wpAny (model prog w) A t Q E s) :
    Gives prog w h₀ NoF W σ s A t v σ := fun E Q q => h E Q fun tk => q s.heap tk W val (Stp.refl _ _ _ _) R rv

-- a heap that keeps all and has a new list
theorem SR.addList {h h' : Heap} {xs : List AV} {vs : Array Value} {a : Addr} (R : SR prog w h₀ h W σ) (k : ∀ b o, h.get? b = some o → h'.get? b = some o) (ha : h.get? a = none) (hl : h'.PlainList a vs) (rs : RVs h₀ h W xs vs.toList) :
    SR prog w h₀ h' (W ++ [a]) (σ.new (.list xs)) ∧ Stp NoF h W σ h' (W ++ [a]) (σ.new (.list xs)) ∧ RV h₀ h' (W ++ [a]) (.ref σ.n) (.ref a) := by
  obtain ⟨n, e⟩ := id hl
  obtain ⟨R', S⟩ := R.new (h' := h') (a := a) (b := .list xs) k ha
    ⟨vs, hl, RVs.keep (P := NoF) (fun b o _ e => k b o e) (niNo h) (fun j y ey => by rw [List.getElem?_append_left (List.getElem?_eq_some_iff.mp ey).1]; exact ey) rs⟩
  exact ⟨R', S, .ref (by rw [← R.n]; simp)⟩

theorem biSeq_ok {x : AV} {xs : List AV} {v : Value} (e : biSeq σ x = some xs) (R : SR prog w h₀ s.heap W σ) (r : RV h₀ s.heap W x v) :
    ∃ a vs, v = .ref a ∧ RVs h₀ s.heap W xs vs.toList ∧ vs.size ≤ 1000 ∧ ((s.heap.IsTuple a vs ∧ x = .tup xs) ∨ s.heap.PlainList a vs) := by
  unfold biSeq at e
  split at e
  · split at e <;> (try (cases e; done))
    rename_i hz
    cases e
    obtain ⟨a, vs, rfl, ht, rs⟩ := r.tup_inv
    have := small_sz hz
    have h2 := rs.length
    have h3 : vs.toList.length = vs.size := Array.length_toList
    exact ⟨a, vs, rfl, rs, by omega, .inl ⟨ht, rfl⟩⟩
  · obtain ⟨ys, e1, e⟩ := Option.bind_eq_some_iff.mp e
    split at e <;> (try (cases e; done))
    rename_i hz
    cases e
    obtain ⟨a, rfl, ha⟩ := r.ref_inv
    obtain ⟨vs, hl, rs⟩ := R.plist ha e1
    have := small_sz hz
    have h2 := rs.length
    have h3 : vs.toList.length = vs.size := Array.length_toList
    exact ⟨a, vs, rfl, rs, by omega, .inr hl⟩
  · cases e

theorem len_ok {vs : List AV} {vals : List Value} {v : AV} (e : biLen σ vs = some (v, σ')) (R : SR prog w h₀ s.heap W σ) (rs : RVs h₀ s.heap W vs vals) :
    Gives prog w h₀ NoF W σ s A (call (biVal .len) vals) v σ' := by
  unfold biLen at e
  split at e <;> (try (cases e; done))
  obtain ⟨xs, e1, e⟩ := Option.bind_eq_some_iff.mp e
  cases e
  cases rs with
  | cons r rs =>
  cases rs
  obtain ⟨a, vs, rfl, rs, hz, ht⟩ := biSeq_ok e1 R r
  have hl : lenN xs = vs.size := by rw [lenN_eq, rs.length, Array.length_toList]
  rw [hl]
  refine fun E Q q => ?_
  rcases ht with ⟨ht, _⟩ | ht
  · exact PyProof.Rows.len_tuple ht (by omega) (q s.heap _ W _ (Stp.refl _ _ _ _) R (.int _ _))
  · exact Calls.call_len_list ht.isList (by omega) (q s.heap _ W _ (Stp.refl _ _ _ _) R (.int _ _))

theorem abs_ok {vs : List AV} {vals : List Value} {v : AV} (e : biAbs σ vs = some (v, σ')) (R : SR prog w h₀ s.heap W σ) (rs : RVs h₀ s.heap W vs vals) :
    Gives prog w h₀ NoF W σ s A (call (biVal .abs) vals) v σ' := by
  have ab : ∀ i : Int, (if i < 0 then -i else i) = ((i.natAbs : Nat) : Int) := fun i => by split <;> omega
  unfold biAbs at e
  split at e <;> (try (cases e; done))
  cases rs with
  | cons r rs =>
  cases rs
  split at e <;> (try (cases e; done))
  · cases e
    cases r
    exact fun E Q q => call_abs_int fun u tk => by rw [ab]; exact q s.heap tk W _ (Stp.refl _ _ _ _) R (.int _ _)
  · cases e
    cases r with
    | res t h => exact fun E Q q => call_abs_int fun u tk => by rw [ab]; exact q s.heap tk W _ (Stp.refl _ _ _ _) R (.resn _ h)

theorem max_ok {vs : List AV} {vals : List Value} {v : AV} (hA : A.handled = none) (e : biMax σ vs = some (v, σ')) (R : SR prog w h₀ s.heap W σ) (rs : RVs h₀ s.heap W vs vals) :
    Gives prog w h₀ NoF W σ s A (call (biVal .max) vals) v σ' := by
  unfold biMax at e
  split at e <;> (try (cases e; done))
  cases rs with
  | cons r rs =>
  cases rs with
  | cons r' rs =>
  cases rs
  split at e <;> (try (cases e; done))
  cases e
  cases r; cases r'
  rename_i a b t u
  refine fun E Q q => max_two_ints hA fun h' tk k => ?_
  obtain ⟨R', S⟩ := R.grow0 (h' := h') k
  have := Z.ltB_iff a b
  cases h : Z.ltB a b with
  | true => rw [h] at q; rw [if_pos (this.mp h)]; exact q h' tk W _ S R' (.int _ _)
  | false => rw [h] at q; rw [if_neg (fun h' => by rw [this.mpr h'] at h; cases h)]; exact q h' tk W _ S R' (.int _ _)
theorem min_ok {vs : List AV} {vals : List Value} {v : AV} (hA : A.handled = none) (e : biMin σ vs = some (v, σ')) (R : SR prog w h₀ s.heap W σ) (rs : RVs h₀ s.heap W vs vals) :
    Gives prog w h₀ NoF W σ s A (call (biVal .min) vals) v σ' := by
  unfold biMin at e
  split at e <;> (try (cases e; done))
  cases rs with
  | cons r rs =>
  cases rs with
  | cons r' rs =>
  cases rs
  split at e <;> (try (cases e; done))
  cases e
  cases r; cases r'
  rename_i a b t u
  refine fun E Q q => min_two_ints hA fun h' tk k => ?_
  obtain ⟨R', S⟩ := R.grow0 (h' := h') k
  have := Z.ltB_iff b a
  cases h : Z.ltB b a with
  | true => rw [h] at q; rw [if_pos (this.mp h)]; exact q h' tk W _ S R' (.int _ _)
  | false => rw [h] at q; rw [if_neg (fun h' => by rw [this.mpr h'] at h; cases h)]; exact q h' tk W _ S R' (.int _ _)

theorem range_ok {vs : List AV} {vals : List Value} {v : AV} (e : biRange σ vs = some (v, σ')) (R : SR prog w h₀ s.heap W σ) (rs : RVs h₀ s.heap W vs vals) :
    Gives prog w h₀ NoF W σ s A (call (biVal .range) vals) v σ' := by
  unfold biRange at e
  split at e <;> (try (cases e; done))
  cases rs with
  | cons r rs =>
  cases rs
  split at e <;> (try (cases e; done))
  split at e <;> (try (cases e; done))
  split at e <;> (try (cases e; done))
  cases e
  cases r
  rename_i n _ h t
  refine fun E Q q => call_range_1 ?_
  obtain ⟨R', S⟩ := R.grow0 (h' := s.heap.push { cls := .type "range", data := .fields #[.int 0 s.toks, .int (Int.ofNat n) t, .int 1 (s.toks + 1)] }) (fun b o e => Heap.get?_push_of_some _ e)
  exact q _ _ W _ S R' (.rng (IsRange.new ..))

theorem list_ok {vs : List AV} {vals : List Value} {v : AV} (e : biList σ vs = some (v, σ')) (R : SR prog w h₀ s.heap W σ) (rs : RVs h₀ s.heap W vs vals) :
    Gives prog w h₀ NoF W σ s A (call (biVal .list) vals) v σ' := by
  unfold biList at e
  split at e <;> (try (cases e; done))
  obtain ⟨xs, e1, e⟩ := Option.bind_eq_some_iff.mp e
  cases e
  cases rs with
  | cons r rs =>
  cases rs
  obtain ⟨a, vs, rfl, rs, hz, ht⟩ := biSeq_ok e1 R r
  have go : ∀ {T : String} {o : Obj} {n : Nat}, (T = "list" ∨ T = "tuple") → s.heap.get? a = some o → o.cls = .type T → o.data = .seq vs n → Gives prog w h₀ NoF W σ s A (call (biVal .list) [.ref a]) (.ref σ.n) (σ.new (.list xs)) := by
    intro T o n hT ho hc hd E Q q
    refine call_list_seq a hT ho hc hd (fun h' c' k hn => ?_) (by rw [sizeLine_eq]; omega)
    obtain ⟨R', S, r'⟩ := R.addList k (top_none _) ⟨c', hn⟩ rs
    exact q h' s.toks _ _ S R' r'
  rcases ht with ⟨⟨o, ho, hc, n, hd⟩, _⟩ | ⟨n, ho⟩
  · exact go (.inr rfl) ho hc hd
  · exact go (.inl rfl) ho rfl rfl

theorem tuple_ok {vs : List AV} {vals : List Value} {v : AV} (e : biTuple σ vs = some (v, σ')) (R : SR prog w h₀ s.heap W σ) (rs : RVs h₀ s.heap W vs vals) :
    Gives prog w h₀ NoF W σ s A (call (biVal .tuple) vals) v σ' := by
  unfold biTuple at e
  split at e <;> (try (cases e; done))
  obtain ⟨xs, e1, e⟩ := Option.bind_eq_some_iff.mp e
  cases e
  cases rs with
  | cons r rs =>
  cases rs
  obtain ⟨a, vs, rfl, rs, hz, ht⟩ := biSeq_ok e1 R r
  rcases ht with ⟨ht, _⟩ | ht
  · exact Gives.stay R (.tup ht rs) fun E Q q => call_tuple_same ht (q s.toks)
  · refine fun E Q q => call_tuple_list ht.isList (fun h' k => ?_) (by rw [sizeLine_eq]; omega)
    obtain ⟨R1, S1⟩ := R.grow0 (h' := h') k
    obtain ⟨R2, S2, r2⟩ := newTup R1 (RVs.stp S1 R (niNo _) rs)
    simp only [Array.toArray_toList] at R2 S2 r2
    exact q _ s.toks W _ (S1.trans S2) R2 r2

theorem digit_text : ∀ n : Nat, n < 10 → (toString (Int.ofNat n) : Str) = ⟨#[48 + n]⟩ := by
  intro n h
  have : n = 0 ∨ n = 1 ∨ n = 2 ∨ n = 3 ∨ n = 4 ∨ n = 5 ∨ n = 6 ∨ n = 7 ∨ n = 8 ∨ n = 9 := by omega
  rcases this with rfl | rfl | rfl | rfl | rfl | rfl | rfl | rfl | rfl | rfl <;> decide +kernel

theorem str_ok {vs : List AV} {vals : List Value} {v : AV} (e : biStr σ vs = some (v, σ')) (R : SR prog w h₀ s.heap W σ) (rs : RVs h₀ s.heap W vs vals) :
    Gives prog w h₀ NoF W σ s A (call (biVal .str) vals) v σ' := by
  unfold biStr at e
  split at e <;> (try (cases e; done))
  cases rs with
  | cons r rs =>
  cases rs
  split at e <;> (try (cases e; done))
  obtain ⟨x, e1, e⟩ := Option.bind_eq_some_iff.mp e
  cases e
  unfold digit at e1
  split at e1 <;> (try (cases e1; done))
  split at e1 <;> (try (cases e1; done))
  rename_i n _ h
  cases e1
  cases r
  have hlt : n < 10 := Nat.le_of_ble_eq_true h
  refine fun E Q q => P.str_of_int ?_ ?_
  · have : (Int.ofNat n).natAbs = n := rfl
    rw [this]
    have : n.log2 ≤ n := Nat.log2_le_self n
    omega
  · have := digit_text n hlt
    refine q s.heap _ W _ (Stp.refl _ _ _ _) R ?_
    rw [← this]
    exact .str _ _

theorem nLt_eq : ∀ a b : List Nat, nLt a b = PySem.Spec.ltCps a b
  | [], [] => rfl
  | [], _ :: _ => rfl
  | _ :: _, [] => rfl
  | a :: as, b :: bs => by
    unfold nLt PySem.Spec.ltCps
    cases h : Nat.blt a b with
    | true =>
      have : a < b := Nat.le_of_ble_eq_true h
      simp [h, this]
    | false =>
      have h1 : ¬ a < b := fun q => by
        have : Nat.blt a b = true := Nat.ble_eq_true_of_le q
        rw [h] at this; cases this
      cases h2 : Nat.beq a b with
      | true =>
        have := Nat.eq_of_beq_eq_true h2
        subst this
        simp [h, h2, nLt_eq as bs]
      | false =>
        have := Nat.ne_of_beq_eq_false h2
        simp [h, h1, h2, this]
theorem nLt_tri : ∀ a b : List Nat, nLt a b = false → nLt b a = false → a = b
  | [], [], _, _ => rfl
  | [], _ :: _, h, _ => by simp [nLt] at h
  | _ :: _, [], _, h => by simp [nLt] at h
  | a :: as, b :: bs, h1, h2 => by
    rw [nLt_eq] at h1 h2
    unfold PySem.Spec.ltCps at h1 h2
    simp only [Bool.or_eq_false_iff, decide_eq_false_iff_not] at h1 h2
    have : a = b := by omega
    subst this
    have e1 := h1.2
    have e2 := h2.2
    simp only [beq_self_eq_true, Bool.true_and] at e1 e2
    rw [nLt_tri as bs (by rw [nLt_eq]; exact e1) (by rw [nLt_eq]; exact e2)]

theorem sort2_ok {xs ys : List AV} {ss ss' : List Str} (e : sort2 xs = some ys) (hx : xs = ss.map AV.str) (hp : ss'.Perm ss) (hs : sortedS ss' = true) : ys = ss'.map AV.str := by
  subst hx
  rcases ss with _ | ⟨a, _ | ⟨b, _ | ⟨c, r⟩⟩⟩
  · rw [List.perm_nil.mp hp]
    cases e
    rfl
  · rw [List.perm_singleton.mp hp]
    cases e
    rfl
  · simp only [List.map_cons, List.map_nil, sort2] at e
    have two : ss' = [a, b] ∨ ss' = [b, a] := by
      have hlen := hp.length_eq
      rcases ss' with _ | ⟨c, _ | ⟨d, _ | ⟨_, _⟩⟩⟩ <;> simp at hlen
      have hc : c ∈ [a, b] := hp.subset (.head _)
      simp only [List.mem_cons, List.not_mem_nil, or_false] at hc
      rcases hc with rfl | rfl
      · have := List.perm_singleton.mp ((List.perm_cons _).mp hp)
        cases this
        exact .inl rfl
      · have h2 := hp.trans (List.Perm.swap _ _ [])
        have := List.perm_singleton.mp ((List.perm_cons _).mp h2)
        cases this
        exact .inr rfl
    cases q : nLt b.cps.toList a.cps.toList with
    | true =>
      rw [q] at e
      cases e
      rcases two with rfl | rfl
      · simp [sortedS, risingS, ← nLt_eq, q] at hs
      · rfl
    | false =>
      rw [q] at e
      cases e
      rcases two with rfl | rfl
      · rfl
      · have h2 : nLt a.cps.toList b.cps.toList = false := by
          simpa [sortedS, risingS, ← nLt_eq] using hs
        have : a = b := by
          have := nLt_tri _ _ h2 q
          cases a; cases b
          simp only [Str.mk.injEq]
          exact Array.toList_inj.mp this
        subst this
        rfl
  · simp [sort2] at e

theorem strs_of {h : Heap} : ∀ {ss : List Str} {vs : List Value}, RVs h₀ h W (ss.map AV.str) vs → StrsAre vs ss
  | [], _, r => by cases r; exact .nil
  | x :: ss, _, r => by
    cases r with
    | cons r rs => cases r; exact .cons _ _ (strs_of rs)
theorem of_strs {h : Heap} : ∀ {ss : List Str} {vs : List Value}, StrsAre vs ss → RVs h₀ h W (ss.map AV.str) vs
  | _, _, .nil => .nil
  | _, _, .cons y t r => .cons (.str _ _) (of_strs r)
theorem sort2_strs {xs ys : List AV} (e : sort2 xs = some ys) : ∃ ss : List Str, xs = ss.map AV.str ∧ ss.length ≤ 2 := by
  unfold sort2 at e
  split at e
  · exact ⟨[], rfl, by simp⟩
  · exact ⟨[_], rfl, by simp⟩
  · exact ⟨[_, _], rfl, by simp⟩
  · cases e

theorem sort_ok {vs : List AV} {vals : List Value} {v : AV} (e : biSorted σ vs = some (v, σ')) (R : SR prog w h₀ s.heap W σ) (rs : RVs h₀ s.heap W vs vals) :
    Gives prog w h₀ NoF W σ s A (call (biVal .sorted) vals) v σ' := by
  unfold biSorted at e
  split at e <;> (try (cases e; done))
  cases rs with
  | cons r rs =>
  cases rs
  split at e <;> (try (cases e; done))
  obtain ⟨xs, e1, e⟩ := Option.bind_eq_some_iff.mp e
  obtain ⟨ys, e2, e⟩ := Option.bind_eq_some_iff.mp e
  cases e
  obtain ⟨a, rfl, ha⟩ := r.ref_inv
  obtain ⟨vs, hl, rs⟩ := R.list ha e1
  obtain ⟨ss, rfl, hlen⟩ := sort2_strs e2
  have hS := strs_of rs
  have hll : vs.toList.length < 64 := by
    rw [← rs.length, List.length_map]
    omega
  have hl' : s.heap.IsList a vs.toList.toArray := by simpa using hl
  refine fun E Q q => sorted_strs hl' hS hll fun out ss' h1 h2 h3 => ?_
  have hy := sort2_ok e2 rfl h2 h3
  subst hy
  obtain ⟨e, he⟩ := sortedAll_at s.heap vs.toList out
  obtain ⟨R', S, r'⟩ := R.addList (h' := sortedAll s.heap vs.toList out) (a := s.heap.objs.size + 1) (vs := out) (fun b o e => sortedAll_old e) (by
    cases q : s.heap.get? (s.heap.objs.size + 1) with
    | none => rfl
    | some o => exact absurd (Nat.lt_of_succ_lt (Heap.lt_size q)) (Nat.lt_irrefl _)) ⟨e, he⟩ (of_strs h1)
  exact q _ s.toks _ _ S R' r'
end
end Mine
end
section
open PySem PySem.W PySem.SeqAt PyProof.Rows
set_option maxRecDepth 100000
set_option linter.unusedVariables false
namespace Mine
section
variable {prog : Program} {w : World} {K : Frag} {h₀ h h' : Heap} {W : List Addr} {σ σ' : Sto} {s : Shared} {A : Around}

theorem erase_map {α β : Type} (f : α → β) : ∀ (l : List α) (j : Nat), (l.map f).eraseIdx j = (l.eraseIdx j).map f
  | [], _ => rfl
  | _ :: _, 0 => rfl
  | x :: l, j + 1 => by simp [erase_map f l j]
theorem RVs.put {a : Addr} {o : Obj} (hs : Heap.SameBut a h h') (ho : h.get? a = some o) (so : Mine.soft o = true) {xs : List AV} {vs : List Value} (r : RVs h₀ h W xs vs) : RVs h₀ h' W xs vs :=
  RVs.keep (P := fun b => b = a) (fun b o q e => (hs.2 b q).trans e) (fun b o' q e => by subst q; rw [ho] at e; cases e; exact soft_ni so) (fun _ _ e => e) r
theorem RV.put {a : Addr} {o : Obj} (hs : Heap.SameBut a h h') (ho : h.get? a = some o) (so : Mine.soft o = true) {x : AV} {v : Value} (r : RV h₀ h W x v) : RV h₀ h' W x v :=
  RV.keep (P := fun b => b = a) (fun b o q e => (hs.2 b q).trans e) (fun b o' q e => by subst q; rw [ho] at e; cases e; exact soft_ni so) (fun _ _ e => e) r

theorem dPut_S {x : Str} {v : AV} {val : Value} (rv : RV h₀ h W v val) : ∀ {es es' : List (AV × AV)} {kvs : List (Str × Value)}, es.map (·.1) = kvs.map (fun p => AV.str p.1) → RVs h₀ h W (es.map (·.2)) (kvs.map (·.2)) → (kvs.map (·.1)).Nodup →
    dPut es (.str x) v = some es' → es'.map (·.1) = (stored kvs x val).map (fun p => AV.str p.1) ∧ RVs h₀ h W (es'.map (·.2)) ((stored kvs x val).map (·.2))
  | [], es', kvs, hk, rs, hn, e => by
    cases kvs with
    | nil => cases e; exact ⟨rfl, .cons rv .nil⟩
    | cons _ _ => simp at hk
  | e₀ :: es, es', kvs, hk, rs, hn, e => by
    cases kvs with
    | nil => simp at hk
    | cons p kvs =>
      obtain ⟨y, u⟩ := p
      simp only [List.map_cons, List.cons.injEq] at hk
      simp only [List.map_cons, List.nodup_cons] at hn
      cases rs with
      | cons r rs =>
        unfold dPut at e
        rw [hk.1] at e
        simp only [dEq] at e
        cases q : sEq y x with
        | true =>
          rw [q] at e
          cases e
          have := sEq_iff.mp q
          subst this
          have hm : kvs.map (fun kv => if kv.1 = y then (kv.1, val) else kv) = kvs := by
            conv => rhs; rw [← List.map_id kvs]
            refine List.map_congr_left fun kv m => ?_
            rw [if_neg (fun e => hn.1 (List.mem_map.mpr ⟨kv, m, e⟩))]
            rfl
          have hst : stored ((y, u) :: kvs) y val = (y, val) :: kvs := by
            unfold stored
            simp only [List.any_cons, decide_true, Bool.true_or, if_true, List.map_cons, hm]
          rw [hst]
          exact ⟨by simp [hk.1, hk.2], .cons rv rs⟩
        | false =>
          rw [q] at e
          simp only at e
          obtain ⟨r', e1, e⟩ := Option.bind_eq_some_iff.mp e
          cases e
          have hne := sEq_false.mp q
          obtain ⟨h1, h2⟩ := dPut_S rv hk.2 rs hn.2 e1
          have hst : stored ((y, u) :: kvs) x val = (y, u) :: stored kvs x val := by
            unfold stored
            simp only [List.any_cons, hne, decide_false, Bool.false_or, List.map_cons, if_false]
            split <;> simp
          rw [hst]
          exact ⟨by simp [h1, hk.1], .cons r h2⟩

open Classical in
theorem dPut_D {k v : AV} {val : Value} {a : Addr} (hd : isDat 8 k = true) (rv : RV h₀ h W v val) : ∀ {es es' : List (AV × AV)} {xs : List (AV × Addr × Value)}, es.map (·.1) = xs.map (·.1) → (∀ x ∈ xs, isDat 8 x.1 = true) → RVs h₀ h W (es.map (·.2)) (xs.map (·.2.2)) → (xs.map (·.1)).Nodup →
    dPut es k v = some es' → es'.map (·.1) = (storedH xs k a val).map (·.1) ∧ RVs h₀ h W (es'.map (·.2)) ((storedH xs k a val).map (·.2.2))
  | [], es', xs, hk, _, rs, hn, e => by
    cases xs with
    | nil => cases e; exact ⟨rfl, .cons rv .nil⟩
    | cons _ _ => simp at hk
  | e₀ :: es, es', xs, hk, hds, rs, hn, e => by
    cases xs with
    | nil => simp at hk
    | cons p xs =>
      obtain ⟨y, b, u⟩ := p
      simp only [List.map_cons, List.cons.injEq] at hk
      simp only [List.map_cons, List.nodup_cons] at hn
      cases rs with
      | cons r rs =>
        obtain ⟨t, h1, h2⟩ := dEq_dat 8 (hds _ (.head _)) hd
        have h1 := dEq_up 8 10 (by omega) h1
        unfold dPut at e
        rw [hk.1, h1] at e
        cases t with
        | true =>
          cases e
          have := h2.mp rfl
          simp only at this
          subst this
          have hm : xs.map (putAt y val) = xs := map_putAt_of_not_mem xs y val hn.1
          have hst : storedH ((y, b, u) :: xs) y a val = (y, b, val) :: xs := by
            unfold storedH
            simp [atKey, List.map_cons, hm, putAt]
          rw [hst]
          exact ⟨by simp [hk.1, hk.2], .cons rv rs⟩
        | false =>
          simp only at e
          obtain ⟨r', e1, e⟩ := Option.bind_eq_some_iff.mp e
          cases e
          have hne : ¬ y = k := fun q => by have := h2.mpr q; cases this
          obtain ⟨h1, h2⟩ := dPut_D (a := a) hd rv hk.2 (fun x m => hds x (.tail _ m)) rs hn.2 e1
          have hst : storedH ((y, b, u) :: xs) k a val = (y, b, u) :: storedH xs k a val := by
            have hc : atKey ((y, b, u) :: xs) k = atKey xs k := by simp [atKey, hne]
            unfold storedH
            rw [hc]
            by_cases c : (atKey xs k).isSome = true
            · rw [if_pos c, if_pos c]; simp [putAt, hne]
            · rw [if_neg c, if_neg c]; rfl
          rw [hst]
          exact ⟨by simp [h1, hk.1], .cons r h2⟩

open Classical in
theorem dDel_D {k : AV} (hd : isDat 8 k = true) : ∀ {es es' : List (AV × AV)} {xs : List (AV × Addr × Value)} {j : Nat} {p : Addr × Value}, es.map (·.1) = xs.map (·.1) → (∀ x ∈ xs, isDat 8 x.1 = true) → RVs h₀ h W (es.map (·.2)) (xs.map (·.2.2)) → (xs.map (·.1)).Nodup →
    xs[j]? = some (k, p) → dDel es k = some es' → es'.map (·.1) = (xs.eraseIdx j).map (·.1) ∧ RVs h₀ h W (es'.map (·.2)) ((xs.eraseIdx j).map (·.2.2))
  | [], es', xs, j, p, hk, _, rs, hn, hj, e => by
    cases xs with
    | nil => simp at hj
    | cons _ _ => simp at hk
  | e₀ :: es, es', xs, j, p, hk, hds, rs, hn, hj, e => by
    cases xs with
    | nil => simp at hk
    | cons q xs =>
      obtain ⟨y, b, u⟩ := q
      simp only [List.map_cons, List.cons.injEq] at hk
      simp only [List.map_cons, List.nodup_cons] at hn
      cases rs with
      | cons r rs =>
        obtain ⟨t, h1, h2⟩ := dEq_dat 8 (hds _ (.head _)) hd
        have h1 := dEq_up 8 10 (by omega) h1
        unfold dDel at e
        rw [hk.1, h1] at e
        cases t with
        | true =>
          cases e
          have := h2.mp rfl
          simp only at this
          subst this
          cases j with
          | zero => exact ⟨hk.2, rs⟩
          | succ j =>
            simp only [List.getElem?_cons_succ] at hj
            exact absurd (List.mem_map.mpr ⟨_, List.mem_of_getElem? hj, rfl⟩) hn.1
        | false =>
          simp only at e
          obtain ⟨r', e1, e⟩ := Option.bind_eq_some_iff.mp e
          cases e
          have hne : ¬ y = k := fun q => by have := h2.mpr q; cases this
          cases j with
          | zero =>
            simp only [List.getElem?_cons_zero, Option.some.injEq, Prod.mk.injEq] at hj
            exact absurd hj.1 hne
          | succ j =>
            simp only [List.getElem?_cons_succ] at hj
            obtain ⟨h1, h2⟩ := dDel_D hd hk.2 (fun x m => hds x (.tail _ m)) rs hn.2 hj e1
            exact ⟨by simp [h1, hk.1], .cons r h2⟩

section
variable {KK : Type} [DecidableEq KK] {knd : HeapKind prog w KK} {E : Value → Shared → Prop}
theorem takeOut_heap {d a : Addr} {xs : List (KK × Addr × Value)} {k : KK} {Q : Option DictEntry → Shared → Prop} (hu : knd.room A) (hkey : knd.is s.heap k a) (hm : s.heap.DictOfH knd d xs)
    (hnone : (∀ (j : Nat) (p : Addr × Value), xs[j]? ≠ some (k, p)) → Q none { s with toks := s.toks + knd.draws k })
    (hsome : ∀ (j : Nat) (p : Addr × Value) (e : DictEntry), xs[j]? = some (k, p) → e.val = p.2 → ∀ h', h'.DictOfH knd d (xs.eraseIdx j) → Heap.SameBut d s.heap h' → Q (some e) { s with heap := h', toks := s.toks + knd.draws k })
    (hsz : xs.length ≤ sizeLine) : wpAny (model prog w) A (Builtin.Dict.takeOut d (.ref a)) Q E s := by
  obtain ⟨o, es, ep, ho, hc, hd, he, his, hn⟩ := hm
  unfold Builtin.Dict.takeOut
  try with_reducible refine wpAny_holding ?_
  refine wpAny_bind (knd.pyHash hu hkey (wpAny_bind (wpAny_dictFind_heap (s := { s with toks := s.toks + knd.draws k }) hu hkey ho hd he his hn ?_ ?_)))
  · exact fun hno => wpAny_pure (hnone hno)
  · intro j p hj
    refine wpAny_bind (wpAny_dictEntries (s := { s with toks := s.toks + knd.draws k }) ho hd ?_)
    rw [entry_at he j, hj]
    refine wpAny_bind (wpAny_updateDictKeys (hz := by have e := size_of_entries he; omega) (s := { s with toks := s.toks + knd.draws k }) ho hd (wpAny_pure (hsome j p _ hj rfl _ ⟨_, _, ep + 1, Heap.get?_update_self _ ho (Obj.isFreed_of_dict (Obj.data_mapDictKeys hd _)),
      hc.mapDictKeys _, Obj.data_mapDictKeys hd _, ?_, ?_, ?_⟩ (Heap.SameBut.update ..))))
    · obtain ⟨l⟩ := es
      simp only at he
      subst he
      simp [erase_map]
    · intro x hx
      exact knd.keeps (his x (List.mem_of_mem_eraseIdx hx)) ho hd (Heap.SameBut.update ..)
    · exact List.Nodup.sublist (List.Sublist.map _ (List.eraseIdx_sublist _ _)) hn
end
end
end Mine
end
section
open PySem PySem.W PySem.SeqAt PyProof.Rows
set_option maxRecDepth 100000
set_option linter.unusedVariables false
namespace Mine
section
variable {prog : Program} {w : World} {K : Frag} {h₀ h h' : Heap} {W : List Addr} {σ σ' : Sto} {s : Shared} {A : Around}

theorem append_ok {i : Nat} {a : Addr} {xs : List AV} {v : AV} {val : Value} (ea : W[i]? = some a) (e : σ.list i = some xs) (hs : small 1000 xs = true) (R : SR prog w h₀ s.heap W σ) (rv : RV h₀ s.heap W v val) :
    Gives prog w h₀ NoF W σ s A (call (.builtin "list.append") [.ref a, val]) .none (σ.put i (.list (xs ++ [v]))) := by
  obtain ⟨c, ec, hb⟩ := Sto.list_some e
  obtain ⟨vs, hl, rs⟩ := R.plist ea e
  have hz := small_sz hs
  have hlen := rs.length
  have h3 : vs.toList.length = vs.size := Array.length_toList
  refine fun E Q q => wpAny_list_append_plain hl (fun h' hl' hs' => ?_) (by rw [sizeLine_eq]; omega)
  obtain ⟨n, ho⟩ := id hl
  obtain ⟨R', S⟩ := R.put ea ec hs' (b := .list (xs ++ [v])) ⟨_, hl', by simpa using (RVs.put hs' ho rfl rs).append (.cons (RV.put hs' ho rfl rv) .nil)⟩
  exact q h' s.toks W .none S R' .none

theorem extend_ok {i j : Nat} {a b : Addr} {xs ys : List AV} (hij : i ≠ j) (ea : W[i]? = some a) (eb : W[j]? = some b) (e : σ.list i = some xs) (e' : σ.list j = some ys) (hs : small 1000 xs = true) (hs2 : small 1000 ys = true) (R : SR prog w h₀ s.heap W σ) :
    Gives prog w h₀ NoF W σ s A (call (.builtin "list.extend") [.ref a, .ref b]) .none (σ.put i (.list (xs ++ ys))) := by
  obtain ⟨c, ec, hb⟩ := Sto.list_some e
  obtain ⟨vs, ⟨n, ho⟩, rs⟩ := R.plist ea e
  obtain ⟨us, ⟨n2, ho2⟩, rs2⟩ := R.plist eb e'
  have hz := small_sz hs
  have hlen := rs.length
  have h3 : vs.toList.length = vs.size := Array.length_toList
  have hz2 := small_sz hs2
  have hlen2 := rs2.length
  have h32 : us.toList.length = us.size := Array.length_toList
  have hsz : vs.size + us.size ≤ sizeLine := by rw [sizeLine_eq]; omega
  refine fun E Q q => call_meets PySem.F.slot_list_extend ⟨_, ho, rfl⟩ PySem.F.entry_list_extend (PySem.F.args_list_extend_2 _ _) (AutoSeq1.list_extend_list_list_0 a vs n b us n2 (extend_door hsz) (Nat.le_trans (Nat.le_add_right _ _) hsz) (by omega)) ⟨ho, ho2, ?_⟩
  have ho' : ∃ n', (s.heap.update a (Obj.mapSeq fun x => x ++ us)).get? a = some { cls := .type "list", data := .seq (vs ++ us) n' } :=
    ⟨_, by rw [Heap.get?_update_self _ ho (by rw [mapSeq_app]; rfl), mapSeq_app]⟩
  have hs' : Heap.SameBut a s.heap (s.heap.update a (Obj.mapSeq fun x => x ++ us)) := Heap.SameBut.update ..
  obtain ⟨R', S⟩ := R.put ea ec hs' (b := .list (xs ++ ys)) ⟨_, ho', by simpa using (RVs.put hs' ho rfl rs).append (RVs.put hs' ho rfl rs2)⟩
  exact q _ s.toks W .none S R' .none

theorem DS.noDict {h : Heap} {es : List (AV × AV)} {a : Addr} (r : DS prog w h₀ h W es a ∨ DD prog w h₀ h W es a) : ∃ o ds n, h.get? a = some o ∧ o.cls = .type "dict" ∧ o.dict = none ∧ o.data = .dict ds n := by
  rcases r with ⟨kvs, ⟨o, es, ep, ho, hc, hd, _⟩, _⟩ | ⟨xs, ⟨o, es, ep, ho, hc, hd, _⟩, _⟩
  · exact ⟨o, es, ep, ho, hc.1, hc.2.1, hd⟩
  · exact ⟨o, es, ep, ho, hc.1, hc.2.1, hd⟩

open Classical in
theorem get_ok (b0 : Bs0 h₀) {i : Nat} {a : Addr} {es : List (AV × AV)} {k v : AV} {kv val : Value} {o : Option AV} (hu : A.units + 30 < cLine) (ea : W[i]? = some a) (e : σ.dict i = some es) (hk : keyFits k es = true) (e1 : dFind es k = some o)
    (R : SR prog w h₀ s.heap W σ) (rk : RV h₀ s.heap W k kv) (rv : RV h₀ s.heap W v val) :
    Gives prog w h₀ NoF W σ s A (call (.builtin "dict.get") [.ref a, kv, val]) (o.getD v) σ := by
  have rc := R.dict ea e
  have nS := R.noSys b0 ea
  refine fun E Q q => ?_
  rcases keyFits_ok hk with ⟨x, rfl⟩ | ⟨xs, rfl, hd⟩
  · obtain ⟨kvs, hm, hks, rvs⟩ := DS.of hk rc
    cases rk
    rcases dFind_S hks rvs e1 with ⟨rfl, h2⟩ | ⟨v', val', rfl, h2, h3⟩
    · refine call_meetsIn PySem.F.slot_dict_get hm.typeIs PySem.F.entry_dict_get (PySem.F.args_dict_get_3 _ _ _) (meets_dict_get_default (PySem.strKind prog w) a (strKind_is prog w x _) nS val) ⟨_, hm.mapOf, ?_⟩
      rw [h2]
      exact q s.heap _ W _ (Stp.refl _ _ _ _) R rv
    · refine call_meetsIn PySem.F.slot_dict_get hm.typeIs PySem.F.entry_dict_get (PySem.F.args_dict_get_3 _ _ _) (meets_dict_get_default (PySem.strKind prog w) a (strKind_is prog w x _) nS val) ⟨_, hm.mapOf, ?_⟩
      rw [h2]
      exact q s.heap _ W _ (Stp.refl _ _ _ _) R h3
  · obtain ⟨ys, hm, hks, rvs⟩ := DD.of hk rc
    obtain ⟨a', vs, rfl, ht, rs'⟩ := rk.tup_inv
    have hkey : (datKind prog w).is s.heap (.tup xs) a' := ⟨⟨xs, rfl⟩, hd, RV.dat 8 hd rk⟩
    have hroom : (datKind prog w).room A.in1 := by show A.units + 1 + 10 < cLine; omega
    rcases dFind_D hd hks (DD.dat (es := es) hm) rvs e1 with ⟨rfl, h2⟩ | ⟨v', p, rfl, h2, h3⟩
    · refine call_meetsIn PySem.F.slot_dict_get hm.typeIs PySem.F.entry_dict_get (PySem.F.args_dict_get_3 _ _ _) (meetsH_dict_get_default (datKind prog w) a a' nS val) ⟨hroom, _, _, hkey, hm, ?_⟩
      rw [h2]
      exact q s.heap _ W _ (Stp.refl _ _ _ _) R rv
    · refine call_meetsIn PySem.F.slot_dict_get hm.typeIs PySem.F.entry_dict_get (PySem.F.args_dict_get_3 _ _ _) (meetsH_dict_get_default (datKind prog w) a a' nS val) ⟨hroom, _, _, hkey, hm, ?_⟩
      rw [h2]
      exact q s.heap _ W _ (Stp.refl _ _ _ _) R h3

section
variable {KK : Type} [DecidableEq KK] (knd : HeapKind prog w KK) (d a : Addr)
theorem meetsH_pop (hd : (d == sysModules) = false) (dflt : Value) :
    MeetsIn prog w (Builtin.«dict.pop» ⟨[.ref d, .ref a, dflt], []⟩) (fun A R s => knd.room A.in1 ∧ ∃ k xs, knd.is s.heap k a ∧ s.heap.DictOfH knd d xs ∧ xs.length ≤ sizeLine ∧
      ((∀ (j : Nat) (p : Addr × Value), xs[j]? ≠ some (k, p)) → ∀ tk, R (.ok (.ret dflt)) { s with toks := tk }) ∧
      (∀ (j : Nat) (p : Addr × Value), xs[j]? = some (k, p) → ∀ h' tk, h'.DictOfH knd d (xs.eraseIdx j) → Heap.SameBut d s.heap h' → R (.ok (.ret p.2)) { s with heap := h', toks := tk })) :=
  .of_wp fun A R s ⟨hu, k, xs, hkey, hm, hsz, hno, hyes⟩ => by
    have hm' := hm
    obtain ⟨o, es, ep, ho, hc, hdat, he, _⟩ := hm'
    unfold Builtin.«dict.pop»
    refine wpAny_bind ?_
    unfold Builtin.Dict.keyAndDefault
    refine wpAny_bind (wpAny_notOrdered_dict hm.typeIs ?_)
    show wpAny _ _ (pure (d, Value.ref a, some dflt)) _ _ s
    refine wpAny_pure ?_
    have hp : (keyPart (Value.ref a)).isSome = false := rfl
    simp only [hp, Bool.false_eq_true, if_false]
    refine wpAny_bind (wpAny_dictEntries ho hdat (wpAny_bind (wpAny_pure ?_)))
    cases hemp : es.isEmpty with
    | true =>
      simp only [if_true]
      refine wpAny_bind (wpAny_rule (wpAny_bind (wpAny_pure ?_)))
      simp only [Option.isNone_none, if_true]
      refine wpAny_bind (wpAny_missedRemoval_other hd ?_)
      refine wpAny_bind (wpAny_rule (wpAny_pure ⟨dflt, rfl, hno (fun j p hj => ?_) s.toks⟩))
      have : es = #[] := by simpa using hemp
      subst this
      have : xs = [] := by simpa using he.symm
      subst this
      cases hj
    | false =>
      simp only [Bool.false_eq_true, if_false]
      refine wpAny_bind (takeOut_heap hu hkey hm (fun hn => ?_) (fun j p e hj hev h' hm' hs' => ?_) hsz)
      · simp only [Option.isNone_none, if_true]
        refine wpAny_bind (wpAny_missedRemoval_other hd ?_)
        exact wpAny_bind (wpAny_rule (wpAny_pure ⟨dflt, rfl, hno hn _⟩))
      · simp only [Option.isNone_some, Bool.false_eq_true, if_false]
        exact wpAny_bind (wpAny_letGo (wpAny_pure ⟨e.val, rfl, by rw [hev]; exact hyes j p hj h' _ hm' hs'⟩))

theorem meetsH_items (hd : (d == sysModules) = false) :
    MeetsIn prog w (Builtin.«dict.items» ⟨[.ref d], []⟩) (fun _ R s => (∃ o, s.heap.get? d = some o ∧ o.cls = .type "dict") ∧
      R (.ok (.ret (.ref s.heap.objs.size))) { s with heap := s.heap.push { cls := .type "dict_items", data := .fields #[.ref d] } }) :=
  .of_wp fun A R s ⟨⟨o, ho, hc⟩, h⟩ => by
    unfold Builtin.«dict.items»
    refine wpAny_bind ?_
    unfold Builtin.Dict.noArgs
    refine wpAny_bind (wpAny_notOrdered_dict ⟨o, ho, hc⟩ ?_)
    show wpAny _ _ (pure d) _ _ s
    refine wpAny_pure ?_
    show wpAny _ _ (Builtin.Dict.showsAll d >>= _) _ _ s
    unfold Builtin.Dict.showsAll
    rw [if_neg (by rw [hd]; exact Bool.false_ne_true)]
    refine wpAny_bind (wpAny_pure ?_)
    exact wpAny_bind (wpAny_newObj_type (wpAny_pure ⟨_, rfl, h⟩))
end

open Classical in
theorem pop_ok (b0 : Bs0 h₀) {i : Nat} {a : Addr} {es : List (AV × AV)} {ks : List AV} {v : AV} {kv val : Value} {o : Option AV} (hu : A.units + 30 < cLine) (ea : W[i]? = some a) (e : σ.dict i = some es) (hk : keyFits (.tup ks) es = true) (hsz : small 1000 es = true)
    (e1 : dFind es (.tup ks) = some o) {r : AV} (e2 : (match (generalizing := false) o with | some x => (dDel es (.tup ks)).bind fun es' => some (x, σ.put i (.dict es')) | none => some (v, σ)) = some (r, σ'))
    (R : SR prog w h₀ s.heap W σ) (rk : RV h₀ s.heap W (.tup ks) kv) (rv : RV h₀ s.heap W v val) :
    Gives prog w h₀ NoF W σ s A (call (.builtin "dict.pop") [.ref a, kv, val]) r σ' := by
  have rc := R.dict ea e
  obtain ⟨c, ec, hb⟩ := Sto.dict_some e
  have nS := R.noSys b0 ea
  refine fun E Q q => ?_
  have hd : isDat 8 (.tup ks) = true := by
    rcases keyFits_ok hk with ⟨x, h⟩ | ⟨xs, h, hd⟩
    · cases h
    · exact hd
  obtain ⟨ys, hm, hks, rvs⟩ := DD.of hk rc
  obtain ⟨a', vs, rfl, ht, rs'⟩ := rk.tup_inv
  have hkey : (datKind prog w).is s.heap (.tup ks) a' := ⟨⟨ks, rfl⟩, hd, RV.dat 8 hd rk⟩
  have hroom : (datKind prog w).room A.in1 := by show A.units + 1 + 10 < cLine; omega
  have hlen : ys.length ≤ sizeLine := by
    have h1 := small_sz hsz
    have h2 : es.length = ys.length := by simpa using congrArg List.length hks
    rw [sizeLine_eq]; omega
  have hn : (ys.map (·.1)).Nodup := by obtain ⟨_, _, _, _, _, _, _, _, hn⟩ := hm; exact hn
  have hdd := DD.dat (es := es) hm
  refine call_meetsIn PySem.F.slot_dict_pop hm.typeIs PySem.F.entry_dict_pop (PySem.F.args_dict_pop_3 _ _ _) (meetsH_pop (datKind prog w) a a' nS val) ⟨hroom, _, _, hkey, hm, hlen, fun hno tk => ?_, fun j p hj h' tk hm' hs' => ?_⟩
  · rcases dFind_D hd hks hdd rvs e1 with ⟨rfl, h2⟩ | ⟨v', p, rfl, h2, h3⟩
    · cases e2
      exact q s.heap _ W _ (Stp.refl _ _ _ _) R rv
    · rw [atKey_none_of_get hno] at h2; cases h2
  · rcases dFind_D hd hks hdd rvs e1 with ⟨rfl, h2⟩ | ⟨v', p', rfl, h2, h3⟩
    · rw [atKey_of_get hn hj] at h2; cases h2
    · rw [atKey_of_get hn hj] at h2
      cases h2
      obtain ⟨es', e3, e4⟩ := Option.bind_eq_some_iff.mp e2
      cases e4
      obtain ⟨h1, h2⟩ := dDel_D hd hks hdd rvs hn hj e3
      obtain ⟨ob, _, _, ho, hcl, _, hdat⟩ := DS.noDict rc
      have so : Mine.soft ob = true := soft_dict hdat
      obtain ⟨R', S⟩ := R.put ea ec hs' (b := .dict es') (.inr ⟨_, hm', h1, RVs.put hs' ho so h2⟩)
      exact q h' tk W _ S R' (RV.put hs' ho so h3)

theorem items_ok (b0 : Bs0 h₀) {i : Nat} {a : Addr} {es : List (AV × AV)} (ea : W[i]? = some a) (e : σ.dict i = some es) (R : SR prog w h₀ s.heap W σ) :
    Gives prog w h₀ NoF W σ s A (call (.builtin "dict.items") [.ref a]) (.items i) σ := by
  have rc := R.dict ea e
  have nS := R.noSys b0 ea
  obtain ⟨ob, _, _, ho, hcl, _, hdat⟩ := DS.noDict rc
  refine fun E Q q => call_meetsIn PySem.F.slot_dict_items ⟨ob, ho, hcl⟩ PySem.F.entry_dict_items (PySem.F.args_dict_items_1 _) (meetsH_items a nS) ⟨⟨ob, ho, hcl⟩, ?_⟩
  obtain ⟨R', S⟩ := R.grow0 (h' := s.heap.push { cls := .type "dict_items", data := .fields #[.ref a] }) (fun b o e => Heap.get?_push_of_some _ e)
  exact q _ s.toks W _ S R' (.items ea ⟨_, Heap.get?_push_size _ rfl, rfl, rfl⟩)
end
end Mine
end
section
open PySem PySem.W PySem.SeqAt PyProof.Rows
set_option maxRecDepth 100000
set_option linter.unusedVariables false
namespace Mine
theorem keys_missing : typeLookup (.type "list") "keys" = pure none := am_miss_of_fast (by decide +kernel)
theorem plain_update_loop : plainId "dict.update.loop" = true := by decide +kernel
theorem entry_update_loop : entryFor table "dict.update.loop" = some Builtin.«dict.update.loop» := entryFor_of_tree (by kernel_rfl)
section
variable {prog : Program} {w : World} {K : Frag} {h₀ h h' : Heap} {W : List Addr} {σ σ' : Sto} {A : Around}
theorem noKeys {E : Value → Shared → Prop} {s : Shared} {a : Addr} {xs : Array Value} {Q : Option Value → Shared → Prop} (hl : s.heap.PlainList a xs) (hA : A.handled = none)
    (h : ∀ h' tk, (∀ b o, s.heap.get? b = some o → h'.get? b = some o) → Q none { s with heap := h', toks := tk }) : wpAny (model prog w) A (getAttr? (.ref a) "keys") Q E s := by
  obtain ⟨k, hx⟩ := hl
  obtain ⟨hp, g, d, tk, os⟩ := s
  have hT : ∀ tk', (⟨hp, g, d, tk', os⟩ : Shared).TypeIs (.ref a) "list" := fun _ => ⟨_, hx, rfl⟩
  have f1 := sub_AttributeError
  have f3 := PySem.F.slot_list_getattribute.lookup
  have f4 := PySem.F.slot_list_getattribute.bind (.ref a)
  have f5 := am_list_getattr_none
  have hmiss := keys_missing
  unfold getAttr? getAttrBy? getAttrBy
  repeat (any_goals (first | assumption | exact hT _ | ((with_reducible show wpAny _ _ (call (Value.builtin "list.__getattribute__") _ _) _ _ _); refine call_meets PySem.F.slot_list_getattribute (hT _) am_entry_list_getattribute (PySem.F.args_list_getattribute_2 _ _) (meets_getattribute_miss_list a xs k #[] "keys" _ hmiss (by decide) (by size_fits)) ⟨hx, hA, fun h' tk' e hx' => ?_⟩) | wp_step))
  obtain ⟨t', u', he⟩ := hx'.there
  show wpAny _ _ (getattributeRaised _ _ _ _ _ _ _) _ _ _
  unfold getattributeRaised
  repeat (any_goals (first | assumption | wp_step))
  exact h _ _ hx'.keeps

theorem pairsOf_cons {x : AV} {xs : List AV} {ps : List (AV × AV)} (e : pairsOf (x :: xs) = some ps) : ∃ k v r, x = .tup [.str k, v] ∧ pairsOf xs = some r ∧ ps = (.str k, v) :: r := by
  unfold pairsOf at e
  split at e
  · rename_i h; cases h
  · rename_i h
    cases h
    obtain ⟨r, e1, e⟩ := Option.bind_eq_some_iff.mp e
    cases e
    exact ⟨_, _, _, rfl, e1, rfl⟩
  · cases e

theorem isImm_of {o : Obj} {n : String} (hc : o.cls = .type n) (h1 : (n == "tuple") = false) (h2 : (n == "range") = false) (h3 : (n == "dict_items") = false) : isImm o = false := by
  have e1 : (Value.type n == Value.type "tuple") = false := by simpa using h1
  have e2 : (Value.type n == Value.type "range") = false := by simpa using h2
  have e3 : (Value.type n == Value.type "dict_items") = false := by simpa using h3
  unfold isImm
  rw [hc, e1, e2, e3]
  split <;> rfl

theorem update_loop {d it l : Addr} {items : Array Value} {res : Value} {R : Result → Shared → Prop} (hh : A.handled = none) (hdi : it ≠ d) (hdl : l ≠ d) (hil : l ≠ it) :
    ∀ (rest : List Value) (i : Nat) (s : Shared) (xs : List AV) (ps es es' : List (AV × AV)) (kvs : List (Str × Value)), items.toList.drop i = rest → s.heap.IsListIter it l i → s.heap.IsList l items → s.heap.DictOf (PySem.strKind prog w) d kvs →
      es.map (·.1) = kvs.map (fun p => AV.str p.1) → RVs h₀ s.heap W (es.map (·.2)) (kvs.map (·.2)) → RVs h₀ s.heap W xs rest → pairsOf xs = some ps → putAll es ps = some es' → kvs.length + rest.length ≤ sizeLine →
      (∀ h' tk kvs', h'.DictOf (PySem.strKind prog w) d kvs' → es'.map (·.1) = kvs'.map (fun p => AV.str p.1) → RVs h₀ h' W (es'.map (·.2)) (kvs'.map (·.2)) → (∀ b o, b ≠ d → b ≠ it → s.heap.get? b = some o → h'.get? b = some o) →
        R (.ok (.ret res)) { s with heap := h', toks := tk }) →
      codeAny (model prog w) A (.builtin "dict.update.loop" ⟨[.ref d, .ref it, rawInt i, res], []⟩) R s
  | [], i, s, xs, ps, es, es', kvs, hdr, hit, hl, hm, hk, rs, rx, hp, hput, hsz, hR => by
    cases rx
    cases hp
    cases hput
    have hno : items[i]? = none := by
      rw [← Array.getElem?_toList, List.getElem?_eq_none_iff]
      exact List.drop_eq_nil_iff.mp hdr
    refine codeAny_builtin entry_update_loop ?_
    rw [Around.under_plainId plain_update_loop _]
    show wpAny _ A.in1 (pyNext (.ref it) >>= _) _ _ s
    refine wpAny_bind (wpAny_pyNext_list_end hh hit hl hno fun h' hs' => ?_)
    show wpAny _ A.in1 (Builtin.Dict.addKeywords d [] >>= fun _ => ret res) _ _ _
    refine wpAny_bind (wpAny_pure (wpAny_pure (hR h' s.toks kvs ?_ hk ?_ fun b o _ q e => hs' b o q e)))
    · obtain ⟨o, e1, e2, ho, r⟩ := hm
      exact ⟨o, e1, e2, hs' _ _ hdi.symm ho, r⟩
    · obtain ⟨oi, hoi, hci, _⟩ := hit
      exact RVs.keep (P := fun b => b = it) (fun b o q e => hs' b o q e) (fun b o q e => by subst q; rw [hoi] at e; cases e; exact isImm_of hci rfl rfl rfl) (fun _ _ e => e) rs
  | v :: rest, i, s, xs, ps, es, es', kvs, hdr, hit, hl, hm, hk, rs, rx, hp, hput, hsz, hR => by
    cases rx with
    | cons r rx =>
    obtain ⟨k, av, ps', rfl, hp', rfl⟩ := pairsOf_cons hp
    obtain ⟨t, vs, rfl, ht, rvs⟩ := r.tup_inv
    have hvs : ∃ kt val, vs.toList = [Value.str k kt, val] ∧ RV h₀ s.heap W av val := by
      generalize vs.toList = l at rvs
      cases rvs with
      | cons r1 rvs => cases rvs with
        | cons r2 rvs => cases rvs; cases r1; exact ⟨_, _, rfl, r2⟩
    obtain ⟨kt, val, hvs, rval⟩ := hvs
    have hx : items[i]? = some (.ref t) := by
      rw [← Array.getElem?_toList]
      have : (items.toList.drop i)[0]? = some (.ref t) := by rw [hdr]; rfl
      simpa using this
    have hdr' : items.toList.drop (i + 1) = rest := by
      have : items.toList.drop (i + 1) = (items.toList.drop i).drop 1 := by rw [List.drop_drop]
      rw [this, hdr]; rfl
    unfold putAll at hput
    simp only at hput
    split at hput <;> (try (cases hput; done))
    rename_i hkf
    obtain ⟨es1, hput1, hput⟩ := Option.bind_eq_some_iff.mp hput
    refine codeAny_builtin entry_update_loop ?_
    rw [Around.under_plainId plain_update_loop _]
    show wpAny _ A.in1 (pyNext (.ref it) >>= _) _ _ s
    refine wpAny_bind (wpAny_pyNext_list_item hit hl hx fun h1 hit1 hs1 => ?_)
    have up1 : ∀ b o, b ≠ it → s.heap.get? b = some o → h1.get? b = some o := fun b o q e => (hs1.2 b q).trans e
    obtain ⟨oi, hoi, hci, _⟩ := id hit
    have ni1 : NI (fun b => b = it) s.heap := fun b o q e => by subst q; rw [hoi] at e; cases e; exact isImm_of hci rfl rfl rfl
    have rx1 := RVs.keep (W' := W) (P := fun b => b = it) (fun b o q e => up1 b o q e) ni1 (fun _ _ e => e) rx
    have rs1 := RVs.keep (W' := W) (P := fun b => b = it) (fun b o q e => up1 b o q e) ni1 (fun _ _ e => e) rs
    have rv1 := RV.keep (W' := W) (P := fun b => b = it) (fun b o q e => up1 b o q e) ni1 (fun _ _ e => e) rval
    have hm1 : h1.DictOf (PySem.strKind prog w) d kvs := by
      obtain ⟨o, e1, e2, ho, r⟩ := hm
      exact ⟨o, e1, e2, up1 _ _ hdi.symm ho, r⟩
    have hl1 : h1.IsList l items := by
      obtain ⟨o, ho, r⟩ := hl
      exact ⟨o, up1 _ _ hil ho, r⟩
    obtain ⟨ot, hot, hct, nt, hdt⟩ := ht
    have hti : t ≠ it := fun e => by subst e; rw [hoi] at hot; cases hot; exact absurd (hci.symm.trans hct) (by simp)
    have hot1 := up1 _ _ hti hot
    simp only
    refine wpAny_bind (wpAny_holding ?_)
    refine wpAny_bind (wpAny_tryCatch ?_)
    unfold Builtin.Dict.pairItems
    refine wpAny_bind (wpAny_typeOf (s := { s with heap := h1 }) ⟨ot, hot1, hct⟩ ?_)
    rw [if_pos (by decide)]
    refine wpAny_bind (wpAny_seqItems (s := { s with heap := h1 }) hot1 hdt (wpAny_pure ?_))
    simp only [Option.getD_some, hvs]
    have hlen : kvs.length ≤ sizeLine := by
      simp only [List.length_cons] at hsz
      omega
    refine wpAny_holding (wpAny_dictSet_pairs (s := { s with heap := h1 }) (strKind_is prog w k kt) hm1 (fun h2 hm2 hs2 => ?_) hlen)
    refine wpAny_pure ⟨plainId_quiet plain_update_loop _, ?_⟩
    obtain ⟨od, e1, e2, hod, hcd, hdd, _⟩ := id hm1
    have sd : Mine.soft od = true := soft_dict hdd
    have hn : (kvs.map (·.1)).Nodup := by obtain ⟨_, _, _, _, _, _, _, _, hn⟩ := hm1; exact hn
    obtain ⟨g1, g2⟩ := dPut_S rv1 hk rs1 hn hput1
    refine update_loop hh hdi hdl hil rest (i + 1) { s with heap := h2, toks := s.toks + 1 } _ ps' es1 es' (stored kvs k val) hdr' ?_ ?_ hm2 g1 (RVs.put hs2 hod sd g2) (RVs.put hs2 hod sd rx1) hp' hput ?_ fun h' tk kvs' q1 q2 q3 q4 => ?_
    · obtain ⟨o, ho, r⟩ := hit1
      exact ⟨o, (hs2.2 _ hdi).trans ho, r⟩
    · obtain ⟨o, ho, r⟩ := hl1
      exact ⟨o, (hs2.2 _ hdl).trans ho, r⟩
    · have := stored_length_le kvs k val
      simp only [List.length_cons] at hsz
      omega
    · exact hR h' tk kvs' q1 q2 q3 fun b o n1 n2 e => q4 b o n1 n2 ((hs2.2 b n1).trans (up1 b o n2 e))

theorem updateFrom_list {id : String} {d l : Addr} {items : Array Value} {R : Result → Shared → Prop} {s : Shared} {xs : List AV} {ps es es' : List (AV × AV)} {kvs : List (Str × Value)} (hh : A.handled = none) (hdl : l ≠ d) (hl : s.heap.PlainList l items)
    (hm : s.heap.DictOf (PySem.strKind prog w) d kvs) (hk : es.map (·.1) = kvs.map (fun p => AV.str p.1)) (rs : RVs h₀ s.heap W (es.map (·.2)) (kvs.map (·.2))) (rx : RVs h₀ s.heap W xs items.toList) (hp : pairsOf xs = some ps) (hput : putAll es ps = some es')
    (hsz : kvs.length + items.size ≤ sizeLine)
    (hR : ∀ h' tk kvs', h'.DictOf (PySem.strKind prog w) d kvs' → es'.map (·.1) = kvs'.map (fun p => AV.str p.1) → RVs h₀ h' W (es'.map (·.2)) (kvs'.map (·.2)) → (∀ b o, b ≠ d → s.heap.get? b = some o → h'.get? b = some o) →
        R (.ok (.ret .none)) { s with heap := h', toks := tk }) :
    wpAny (model prog w) A.in1 (Builtin.Dict.updateFrom id d (.ref l) [] .none)
      (fun fin s' => match fin with | .done f => R (.ok f) s' | .again c' => c'.quiet = true ∧ codeAny (model prog w) A c' R s') (fun e s' => R (.error e) s') s := by
  unfold Builtin.Dict.updateFrom
  refine wpAny_bind (wpAny_typeOf hl.isList.typeIs ?_)
  rw [if_pos (by decide)]
  refine wpAny_bind (noKeys (A := A.in1) hl hh fun h1 tk1 k1 => ?_)
  simp only [Option.isNone_none, if_true]
  refine wpAny_bind (wpAny_rule ?_)
  have hl1 : h1.PlainList l items := hl.at fun o e => k1 _ o e
  refine wpAny_bind (wpAny_pyIter_list (s := { s with heap := h1, toks := tk1 }) hl1.isList ?_)
  refine wpAny_pure ⟨plainId_quiet plain_update_loop _, ?_⟩
  have k2 : ∀ b o, s.heap.get? b = some o → (h1.push { cls := .type "list_iterator", data := .fields #[.ref l, .int 0 0] }).get? b = some o := fun b o e => Heap.get?_push_of_some _ (k1 b o e)
  have hdd : ∃ o, s.heap.get? d = some o := by obtain ⟨o, _, _, ho, _⟩ := hm; exact ⟨o, ho⟩
  obtain ⟨od, hod⟩ := hdd
  have hl0 := hl
  obtain ⟨nl, hol⟩ := hl0
  have nd : h1.objs.size ≠ d := fun e => absurd (Heap.lt_size (k1 _ _ hod)) (e ▸ Nat.lt_irrefl _)
  have nl' : l ≠ h1.objs.size := Nat.ne_of_lt (Heap.lt_size (k1 _ _ hol))
  refine update_loop hh nd hdl nl' items.toList 0 { s with heap := h1.push { cls := .type "list_iterator", data := .fields #[.ref l, .int 0 0] }, toks := tk1 } xs ps es es' kvs rfl
    ⟨_, Heap.get?_push_size _ rfl, rfl, rfl⟩ (hl1.isList.push _) ?_ hk (RVs.keep (P := NoF) (fun b o _ e => k2 b o e) (niNo _) (fun _ _ e => e) rs) (RVs.keep (P := NoF) (fun b o _ e => k2 b o e) (niNo _) (fun _ _ e => e) rx) hp hput (by simpa using hsz) fun h' tk kvs' q1 q2 q3 q4 => ?_
  · obtain ⟨o, e1, e2, ho, r⟩ := hm
    exact ⟨o, e1, e2, k2 _ _ ho, r⟩
  · refine hR h' tk kvs' q1 q2 q3 fun b o n1 e => q4 b o n1 (fun q => ?_) (k2 b o e)
    subst q
    exact absurd (Heap.lt_size (k1 _ _ e)) (Nat.lt_irrefl _)

theorem update_ok {i j : Nat} {a b : Addr} {es es' ps : List (AV × AV)} {xs : List AV} {s : Shared} (hh : A.handled = none) (hij : i ≠ j) (ea : W[i]? = some a) (eb : W[j]? = some b) (e : σ.dict i = some es) (e' : σ.list j = some xs) (hp : pairsOf xs = some ps) (hput : putAll es ps = some es')
    (hk : keyFits (.str ⟨#[]⟩) es = true) (hs : small 1000 es = true) (hs2 : small 1000 xs = true) (R : SR prog w h₀ s.heap W σ) :
    Gives prog w h₀ NoF W σ s A (call (.builtin "dict.update") [.ref a, .ref b]) .none (σ.put i (.dict es')) := by
  have rc := R.dict ea e
  obtain ⟨c, ec, hb⟩ := Sto.dict_some e
  obtain ⟨vs, hl, rx⟩ := R.plist eb e'
  obtain ⟨kvs, hm, hks, rvs⟩ := DS.of hk rc
  have hab : b ≠ a := fun q => by
    subst q
    exact hij ((List.getElem?_inj (List.getElem?_eq_some_iff.mp ea).1 R.nd).mp (ea.trans eb.symm))
  have hsz : kvs.length + vs.size ≤ sizeLine := by
    have h1 := small_sz hs
    have h2 := small_sz hs2
    have h3 : es.length = kvs.length := by simpa using congrArg List.length hks
    have h4 := rx.length
    have h5 : vs.toList.length = vs.size := Array.length_toList
    rw [sizeLine_eq]; omega
  refine fun E Q q => wpAny_call (codeAny_call_builtin PySem.F.slot_dict_update.plain PySem.F.entry_dict_update (PySem.F.slot_dict_update.check _ _ _ _ _ _ _ _ hm.typeIs (PySem.F.args_dict_update_2 _ _) ?_))
  unfold Builtin.«dict.update»
  refine wpAny_bind ?_
  unfold Builtin.Dict.selfAndRest
  refine wpAny_bind (wpAny_notOrdered_dict hm.typeIs ?_)
  show wpAny _ _ (pure (a, [Value.ref b])) _ _ s
  refine wpAny_pure ?_
  show wpAny _ _ (Builtin.Dict.updateFrom "dict.update" a (.ref b) [] .none) _ _ s
  refine updateFrom_list (R := wants Q E) hh hab hl hm hks rvs rx hp hput hsz fun h' tk kvs' q1 q2 q3 q4 => ?_
  obtain ⟨R', S⟩ := R.putK ea ec (h' := h') (b := .dict es') q4 (.inl ⟨_, q1, q2, q3⟩)
  exact q h' tk W _ S R' .none

theorem mro_dict : mroOf (.type "dict") = pure [.type "dict", .type "object"] := by rw [mroOf_type]; kernel_rfl
theorem lookup_dict_new : typeLookup (.type "dict") "__new__" = pure (some (.builtin "dict.__new__")) := by rw [typeLookup_type, builtinLookup_eq_fast]; kernel_rfl
theorem called_dict : TypeCalled "dict" "dict.__new__" "dict.__init__" :=
  ⟨by decide +kernel, by decide +kernel, ⟨_, _, mro_dict⟩, madeBy_type mro_dict lookup_dict_new (by decide +kernel), by decide +kernel, by rw [isSubtype_type]; kernel_rfl, PySem.F.slot_dict_init⟩
theorem typeCall_dict_1 (a : Value) : checkTypeCall "dict" ⟨[a], []⟩ = pure () := by kernel_rfl
theorem newCall_dict_1 (a : Value) : checkBuiltinCall "dict.__new__" ⟨[.type "dict", a], []⟩ = pure () := by kernel_rfl
theorem entry_dict_new : entryFor table "dict.__new__" = some Builtin.«dict.__new__» := entryFor_of_tree (by kernel_rfl)
theorem plain_dict_new : plainId "dict.__new__" = true := by decide +kernel
theorem code_dict_new {E : Value → Shared → Prop} {s : Shared} (a : Value) {Q₁ : Value → Shared → Prop}
    (h : Q₁ (.ref s.heap.objs.size) { s with heap := s.heap.push { cls := .type "dict", data := .dict #[] } }) :
    codeAny (model prog w) A (.call (.builtin "dict.__new__") ⟨[.type "dict", a], []⟩) (wants Q₁ E) s := by
  refine codeAny_of_tree ?_
  show wpAny _ A.in1 (do checkBuiltinCall "dict.__new__" ⟨[.type "dict", a], []⟩; again (.builtin "dict.__new__" ⟨[.type "dict", a], []⟩)) _ _ s
  refine wpAny_bind (wpAny_of_eq (newCall_dict_1 a) (wpAny_pure ⟨plainId_quiet plain_dict_new _, codeAny_builtin entry_dict_new ?_⟩))
  rw [Around.under_plainId plain_dict_new _]
  have hsub := isSubtype_dict_dict
  have hm := mro_dict
  obtain ⟨hp, g, d, tk, os⟩ := s
  unfold Builtin.«dict.__new__»
  wp_walk
  exact h

theorem dict_ok {vs : List AV} {vals : List Value} {v : AV} {s : Shared} (hh : A.handled = none) (e : biDict σ vs = some (v, σ')) (R : SR prog w h₀ s.heap W σ) (rs : RVs h₀ s.heap W vs vals) :
    Gives prog w h₀ NoF W σ s A (call (biVal .dict) vals) v σ' := by
  unfold biDict at e
  split at e <;> (try (cases e; done))
  cases rs with
  | cons r rs =>
  cases rs
  split at e <;> (try (cases e; done))
  obtain ⟨xs, e1, e⟩ := Option.bind_eq_some_iff.mp e
  split at e <;> (try (cases e; done))
  rename_i hz
  obtain ⟨ps, e2, e⟩ := Option.bind_eq_some_iff.mp e
  obtain ⟨es, e3, e⟩ := Option.bind_eq_some_iff.mp e
  cases e
  obtain ⟨l, rfl, hl⟩ := r.ref_inv
  obtain ⟨items, hpl, rx⟩ := R.plist hl e1
  have hsz := small_sz hz
  have h4 := rx.length
  have h5 : items.toList.length = items.size := Array.length_toList
  refine fun E Q q => ?_
  have k1 : ∀ b o, s.heap.get? b = some o → (s.heap.push { cls := .type "dict", data := .dict #[] }).get? b = some o := fun b o e => Heap.get?_push_of_some _ e
  obtain ⟨nl, hol⟩ := id hpl
  refine callType_codes (Q₁ := fun obj s₁ => obj = .ref s.heap.objs.size ∧ s₁ = { s with heap := s.heap.push { cls := .type "dict", data := .dict #[] } }) called_dict (typeCall_dict_1 _) PySem.F.entry_dict_init
    (code_dict_new _ ⟨rfl, rfl⟩) fun obj s₁ h₁ => ?_
  obtain ⟨rfl, rfl⟩ := h₁
  have hd0 : (s.heap.push { cls := .type "dict", data := .dict #[] }).get? s.heap.objs.size = some { cls := .type "dict", data := .dict #[] } := Heap.get?_push_size _ rfl
  have hT : Shared.TypeIs { s with heap := s.heap.push { cls := .type "dict", data := .dict #[] } } (.ref s.heap.objs.size) "dict" := ⟨_, hd0, rfl⟩
  refine ⟨hT, PySem.F.args_dict_init_2 _ _, ?_⟩
  unfold Builtin.«dict.__init__»
  refine wpAny_bind ?_
  unfold Builtin.Dict.selfAndRest
  refine wpAny_bind (wpAny_notOrdered_dict hT ?_)
  show wpAny _ _ (pure (s.heap.objs.size, [Value.ref l])) _ _ _
  refine wpAny_pure ?_
  show wpAny _ _ (Builtin.Dict.updateFrom "dict.__init__" s.heap.objs.size (.ref l) [] .none) _ _ _
  refine updateFrom_list (s := { s with heap := s.heap.push { cls := .type "dict", data := .dict #[] } }) (W := W) (h₀ := h₀) (es := []) (kvs := []) hh (Nat.ne_of_lt (Heap.lt_size hol)) (hpl.at fun o e => k1 _ o e) (Heap.DictOf.new _) rfl .nil
    (RVs.keep (P := NoF) (fun b o _ e => k1 b o e) (niNo _) (fun _ _ e => e) rx) e2 e3 (by rw [sizeLine_eq, List.length_nil]; omega) fun h' tk kvs' q1 q2 q3 q4 => ?_
  refine ⟨rfl, ?_⟩
  obtain ⟨R', S⟩ := R.new (h' := h') (a := s.heap.objs.size) (b := .dict es) (fun b o e => q4 b o (Nat.ne_of_lt (Heap.lt_size e)) (k1 b o e)) (top_none _)
    (.inl ⟨_, q1, q2, RVs.keep (P := NoF) (fun b o _ e => e) (niNo _) (fun j y ey => by rw [List.getElem?_append_left (List.getElem?_eq_some_iff.mp ey).1]; exact ey) q3⟩)
  exact q h' tk _ _ S R' (.ref (by rw [← R.n]; simp))
end
end Mine
end
section
open PySem PySem.W PySem.SeqAt PyProof.Rows
set_option maxRecDepth 100000
set_option linter.unusedVariables false
namespace Mine
section
variable {prog : Program} {w : World} {K : Frag} {h₀ : Heap} {W : List Addr} {σ σ' : Sto} {s : Shared} {A : Around} {env : Env} {c : Cx} {ρ : Rho} {R : Rec}

theorem bi_ok {b : BI} {vs : List AV} {vals : List Value} {v : AV} (hh : A.handled = none) (e : biCall σ b vs = some (v, σ')) (S0 : SR prog w h₀ s.heap W σ) (rs : RVs h₀ s.heap W vs vals) :
    Gives prog w h₀ NoF W σ s A (call (biVal b) vals) v σ' := by
  cases b with
  | len => exact len_ok e S0 rs
  | abs => exact abs_ok e S0 rs
  | max => exact max_ok hh e S0 rs
  | min => exact min_ok hh e S0 rs
  | range => exact range_ok e S0 rs
  | list => exact list_ok e S0 rs
  | tuple => exact tuple_ok e S0 rs
  | dict => exact dict_ok hh e S0 rs
  | sorted => exact sort_ok e S0 rs
  | str => exact str_ok e S0 rs

noncomputable def meId : Me → String
  | .append => "list.append"
  | .extend => "list.extend"
  | .get => "dict.get"
  | .pop => "dict.pop"
  | .items => "dict.items"
  | .update => "dict.update"
noncomputable def meT : Me → String
  | .append => "list"
  | .extend => "list"
  | .get => "dict"
  | .pop => "dict"
  | .items => "dict"
  | .update => "dict"

theorem RVs.one {h : Heap} {x : AV} {vals : List Value} (r : RVs h₀ h W [x] vals) : ∃ v, vals = [v] ∧ RV h₀ h W x v := by
  cases r with | cons r rs => cases rs; exact ⟨_, rfl, r⟩
theorem RVs.two {h : Heap} {x y : AV} {vals : List Value} (r : RVs h₀ h W [x, y] vals) : ∃ v u, vals = [v, u] ∧ RV h₀ h W x v ∧ RV h₀ h W y u := by
  cases r with | cons r rs => cases rs with | cons r' rs => cases rs; exact ⟨_, _, rfl, r, r'⟩

theorem me_ok (b0 : Bs0 h₀) {m : Me} {i : Nat} {a : Addr} {vs : List AV} {vals : List Value} {v : AV} (hh : A.handled = none) (hu : A.units + 30 < cLine) (e : meCall σ i m vs = some (v, σ')) (S0 : SR prog w h₀ s.heap W σ) (ea : W[i]? = some a) (rs : RVs h₀ s.heap W vs vals) :
    Gives prog w h₀ NoF W σ s A (call (.builtin (meId m)) (.ref a :: vals)) v σ' := by
  have two : ∀ {i j : Nat}, Nat.beq i j = false → i ≠ j := fun h => Nat.ne_of_beq_eq_false h
  cases m with
  | append =>
    simp only [meCall] at e
    unfold meAppend at e
    split at e <;> (try (cases e; done))
    obtain ⟨xs, e1, e⟩ := Option.bind_eq_some_iff.mp e
    split at e <;> (try (cases e; done))
    rename_i hs
    cases e
    obtain ⟨val, rfl, rv⟩ := rs.one
    exact append_ok ea e1 hs S0 rv
  | extend =>
    simp only [meCall] at e
    unfold meExtend at e
    split at e <;> (try (cases e; done))
    split at e <;> (try (cases e; done))
    split at e <;> (try (cases e; done))
    rename_i hij
    obtain ⟨xs, e1, e⟩ := Option.bind_eq_some_iff.mp e
    obtain ⟨ys, e2, e⟩ := Option.bind_eq_some_iff.mp e
    split at e <;> (try (cases e; done))
    rename_i hs
    split at e <;> (try (cases e; done))
    rename_i hs2
    cases e
    obtain ⟨val, rfl, rv⟩ := rs.one
    obtain ⟨b, rfl, eb⟩ := rv.ref_inv
    exact extend_ok (two hij) ea eb e1 e2 hs hs2 S0
  | get =>
    simp only [meCall] at e
    unfold meGet at e
    split at e <;> (try (cases e; done))
    obtain ⟨es, e1, e⟩ := Option.bind_eq_some_iff.mp e
    split at e <;> (try (cases e; done))
    rename_i hk
    obtain ⟨o, e2, e⟩ := Option.bind_eq_some_iff.mp e
    cases e
    obtain ⟨kv, val, rfl, rk, rv⟩ := rs.two
    exact get_ok b0 hu ea e1 hk e2 S0 rk rv
  | pop =>
    simp only [meCall] at e
    unfold mePop at e
    split at e <;> (try (cases e; done))
    split at e <;> (try (cases e; done))
    obtain ⟨es, e1, e⟩ := Option.bind_eq_some_iff.mp e
    split at e <;> (try (cases e; done))
    rename_i hk
    split at e <;> (try (cases e; done))
    rename_i hs
    obtain ⟨o, e2, e⟩ := Option.bind_eq_some_iff.mp e
    obtain ⟨kv, val, rfl, rk, rv⟩ := rs.two
    exact pop_ok b0 hu ea e1 hk hs e2 e S0 rk rv
  | items =>
    simp only [meCall] at e
    unfold meItems at e
    split at e <;> (try (cases e; done))
    obtain ⟨es, e1, e⟩ := Option.bind_eq_some_iff.mp e
    cases e
    cases rs
    exact items_ok b0 ea e1 S0
  | update =>
    simp only [meCall] at e
    unfold meUpdate at e
    split at e <;> (try (cases e; done))
    split at e <;> (try (cases e; done))
    split at e <;> (try (cases e; done))
    rename_i hij
    obtain ⟨es, e1, e⟩ := Option.bind_eq_some_iff.mp e
    obtain ⟨xs, e2, e⟩ := Option.bind_eq_some_iff.mp e
    split at e <;> (try (cases e; done))
    rename_i hk
    split at e <;> (try (cases e; done))
    rename_i hs
    split at e <;> (try (cases e; done))
    rename_i hs2
    obtain ⟨ps, e3, e⟩ := Option.bind_eq_some_iff.mp e
    obtain ⟨es', e4, e⟩ := Option.bind_eq_some_iff.mp e
    cases e
    obtain ⟨val, rfl, rv⟩ := rs.one
    obtain ⟨b, rfl, eb⟩ := rv.ref_inv
    exact update_ok hh (two hij) ea eb e1 e2 e3 e4 hk hs hs2 S0

theorem evAll_star {es : List Expr} : ∀ {σ σ' : Sto} {vs : List AV}, evAll R c ρ σ es = some (vs, σ') → ∀ pos, (backTo pos (starEach es env)).any (·.1) = false ∧ (backTo pos (starEach es env)).all (fun x => !x.1) = true ∧ (∀ x r, es = x :: r → starEach es env = (false, eval x env) :: starEach r env) := by
  induction es with
  | nil => exact fun _ pos => ⟨rfl, rfl, fun x r e => by cases e⟩
  | cons x es ih =>
    intro σ σ' vs e pos
    unfold evAll at e
    split at e
    · cases e
    · rename_i hns
      obtain ⟨⟨v, σ1⟩, e1, e⟩ := Option.bind_eq_some_iff.mp e
      obtain ⟨⟨us, σ2⟩, e2, e⟩ := Option.bind_eq_some_iff.mp e
      have hst : starEach (x :: es) env = (false, eval x env) :: starEach es env := by
        cases x <;> first | rfl | exact absurd rfl (hns _ _)
      obtain ⟨h1, h2, _⟩ := ih e2 pos
      refine ⟨?_, ?_, fun y r e => by cases e; exact hst⟩
      · rw [hst]
        simpa [backTo] using h1
      · rw [hst]
        simpa [backTo] using h2

theorem evArgs_ok (ih : EvS prog w h₀ R.ev) (hA : AOk A c.d) {es : List Expr} {f : Value} {pos : Pos} {vs : List AV} (e : evAll R c ρ σ es = some (vs, σ')) (fr : FrOk h₀ env c.sc ρ s.heap W) (S0 : SR prog w h₀ s.heap W σ) :
    ∀ (E : Value → Shared → Prop) (Q : Args → Shared → Prop), (∀ h' tk W' vals, Stp NoF s.heap W σ h' W' σ' → SR prog w h₀ h' W' σ' → RVs h₀ h' W' vs vals → Q ⟨vals, []⟩ { s with heap := h', toks := tk }) →
      wpAny (model prog w) A (evalArgs f true (backTo pos (starEach es env)) []) Q E s := by
  intro E Q q
  cases es with
  | nil =>
    unfold evAll at e
    cases e
    exact PySem.evalArgs_none (q s.heap s.toks W [] (Stp.refl _ _ _ _) S0 .nil)
  | cons x es =>
    have hst := (evAll_star (env := env) e pos).2.2 x es rfl
    have go := evAll_ok (pos := pos) ih hA e fr S0 E (fun vs s' => Q ⟨vs, []⟩ s') q
    rw [hst] at go ⊢
    exact Calls.evalArgs_plain go

noncomputable def meName : Me → Str
  | .append => mAppend
  | .extend => mExtend
  | .get => mGet
  | .pop => mPop
  | .items => mItems
  | .update => mUpdate
theorem meOf_name {x : Str} {m : Me} (e : meOf x = some m) : x = meName m := by
  unfold meOf at e
  repeat' (split at e)
  all_goals first
    | (cases e; rename_i h; exact (sEq_iff.mp h))
    | (cases e)

theorem me_slot {m : Me} {x : Str} (e : meOf x = some m) : PlainAttrs (meT m) ∧ Slot (meT m) x (meId m) ∧ typeOf (.builtin (meId m)) = pure (.type "method_descriptor") := by
  have h := meOf_name e
  subst h
  cases m with
  | append => exact ⟨PySem.F.plainAttrs_list, PySem.F.slot_list_append, PySem.F.type_list_append⟩
  | extend => exact ⟨PySem.F.plainAttrs_list, PySem.F.slot_list_extend, PySem.F.type_list_extend⟩
  | get => exact ⟨PySem.F.plainAttrs_dict, PySem.F.slot_dict_get, PySem.F.type_dict_get⟩
  | pop => exact ⟨PySem.F.plainAttrs_dict, PySem.F.slot_dict_pop, PySem.F.type_dict_pop⟩
  | items => exact ⟨PySem.F.plainAttrs_dict, PySem.F.slot_dict_items, PySem.F.type_dict_items⟩
  | update => exact ⟨PySem.F.plainAttrs_dict, PySem.F.slot_dict_update, PySem.F.type_dict_update⟩

theorem ready_ok {h : Heap} {m : Me} {i : Nat} {a : Addr} (e : meReady σ i m = true) (S0 : SR prog w h₀ h W σ) (ea : W[i]? = some a) : ∃ o, h.get? a = some o ∧ o.cls = .type (meT m) ∧ o.dict = none := by
  have hL : isSm (σ.list i) = true → ∃ o, h.get? a = some o ∧ o.cls = .type "list" ∧ o.dict = none := fun e => by
    cases q : σ.list i with
    | none => rw [q] at e; cases e
    | some xs =>
      obtain ⟨vs, ⟨n, ho⟩, _⟩ := S0.plist ea q
      exact ⟨_, ho, rfl, rfl⟩
  have hD : isSm (σ.dict i) = true → ∃ o, h.get? a = some o ∧ o.cls = .type "dict" ∧ o.dict = none := fun e => by
    cases q : σ.dict i with
    | none => rw [q] at e; cases e
    | some xs =>
      obtain ⟨o, _, _, h1, h2, h3, _⟩ := DS.noDict (S0.dict ea q)
      exact ⟨o, h1, h2, h3⟩
  cases m <;> first | exact hL e | exact hD e

theorem ev_Method (B : Bs prog w K h₀) (ih : EvS prog w h₀ R.ev) {x : Str} {p1 : Pos} {name : Str} {apos pos : Pos} {args : List Expr} {v : AV} (e : evStep K R c ρ σ (.Call (.Attribute (.Name x p1) name apos) args [] pos) = some (v, σ')) (hA : AOk A c.d)
    (f : FrOk h₀ env c.sc ρ s.heap W) (S0 : SR prog w h₀ s.heap W σ) : Gives prog w h₀ NoF W σ s A (eval (.Call (.Attribute (.Name x p1) name apos) args [] pos) env) v σ' := by
  simp only [evStep] at e
  split at e <;> (try (cases e; done))
  rename_i hl hs
  obtain ⟨⟨o, σ1⟩, e1, e⟩ := Option.bind_eq_some_iff.mp e
  have ho : ∃ i, o = .ref i := by
    cases o <;> first | exact ⟨_, rfl⟩ | (simp at e)
  obtain ⟨i, rfl⟩ := ho
  simp only at e
  obtain ⟨m, e2, e⟩ := Option.bind_eq_some_iff.mp e
  split at e <;> (try (cases e; done))
  rename_i hr
  obtain ⟨⟨vs, σ2⟩, e3, e⟩ := Option.bind_eq_some_iff.mp e
  obtain ⟨h1, h2, h3⟩ := me_slot e2
  obtain ⟨g1, g2, _⟩ := evAll_star (env := env) e3 pos
  intro E Q q
  have hlen := small_le hs
  refine wpAny_Call_method (T := meT m) (id := meId m) rfl ?_ ?_ h1 h2 h3 (ih c ρ σ _ _ σ1 e1 A env s W hA f S0 _ _ fun h' tk1 W1 va S1 R1 ra => ?_)
  · rw [g2]
    simp [keywordEach, backToKw]
    omega
  · exact beq_iff_eq.mpr (Nat.eq_of_beq_eq_true hl)
  · obtain ⟨a, rfl, ea⟩ := ra.ref_inv
    obtain ⟨o, ho, hc, hd⟩ := ready_ok hr R1 ea
    refine ⟨⟨o, ho, hc⟩, fun b hb => by cases hb; exact ⟨o, ho, hd⟩, ?_⟩
    refine Calls.callWith_builtin g1 (evArgs_ok ih hA (s := { s with heap := h', toks := tk1 }) e3 (f.stp S0 S1) R1 _ _ fun h2 tk2 W2 vals S2 R2 rs => ?_)
    refine me_ok B.sys hA.hd (by have := hA.un; omega) (s := { s with heap := h2, toks := tk2 }) e R2 (S2.mem ea) rs _ _ fun h3 tk3 W3 vb S3 R3 rb => ?_
    exact q h3 tk3 W3 vb ((S1.trans S2).trans S3) R3 rb
end
end Mine
end
section
open PySem PySem.W PySem.SeqAt PyProof.Rows
set_option maxRecDepth 100000
set_option linter.unusedVariables false
namespace Mine

theorem lookupNone_zip {x : Str} : ∀ {ps : List Str} {vals : List Value}, x ∉ ps → (ps.zip vals).lookup x = none
  | [], _, _ => rfl
  | _ :: _, [], _ => rfl
  | p :: ps, v :: vals, h => by
    rw [List.zip_cons_cons, List.lookup_cons]
    have hne : (x == p) = false := by simpa using fun e : x = p => h (e ▸ .head _)
    rw [hne]
    exact lookupNone_zip fun m => h (.tail _ m)

theorem memS_iff {x : Str} : ∀ {ps : List Str}, memS ps x = true ↔ x ∈ ps
  | [] => by simp [memS]
  | y :: ys => by
    unfold memS
    cases q : sEq y x with
    | true => simp [sEq_iff.mp q]
    | false =>
      have := sEq_false.mp q
      simp only [List.mem_cons, memS_iff (ps := ys)]
      constructor
      · exact .inr
      · rintro (e | e)
        · exact absurd e.symm this
        · exact e
theorem nodupS_iff : ∀ {ps : List Str}, nodupS ps = true → ps.Nodup
  | [], _ => List.nodup_nil
  | x :: xs, h => by
    unfold nodupS at h
    split at h
    · cases h
    · rename_i q
      refine List.nodup_cons.mpr ⟨fun m => ?_, nodupS_iff h⟩
      rw [memS_iff.mpr m] at q; cases q

theorem bindL_skip {kindOf : Str → Option NameKind} {x : Str} : ∀ {r : List (Str × Value)} {m : Str → Option Value}, (∀ p ∈ r, p.1 ≠ x) → bindL kindOf r m x = m x
  | [], _, _ => rfl
  | (n, v) :: r, m, h => by
    unfold bindL
    rw [bindL_skip fun p hp => h p (.tail _ hp)]
    have : x ≠ n := fun e => h _ (.head _) e.symm
    split
    · simp [this]
    · rfl
theorem bindC_skip {kindOf : Str → Option NameKind} {x : Str} : ∀ {r : List (Str × Value)} {m : Str → Option Value}, (∀ p ∈ r, p.1 ≠ x) → bindC kindOf r m x = m x
  | [], _, _ => rfl
  | (n, v) :: r, m, h => by
    unfold bindC
    rw [bindC_skip fun p hp => h p (.tail _ hp)]
    have : x ≠ n := fun e => h _ (.head _) e.symm
    split
    · rfl
    · simp [this]
theorem zip_key {x : Str} {ps : List Str} {vals : List Value} (h : x ∉ ps) : ∀ p ∈ ps.zip vals, p.1 ≠ x := fun p hp e => h (e ▸ (List.of_mem_zip (a := p.1) (b := p.2) hp).1)
theorem bindL_at {kindOf : Str → Option NameKind} {x : Str} {val : Value} (hk : kindOf x = some .local) : ∀ {ps : List Str} {vals : List Value} {m : Str → Option Value}, ps.Nodup → (ps.zip vals).lookup x = some val → bindL kindOf (ps.zip vals) m x = some val
  | [], _, _, _, e => by cases e
  | _ :: _, [], _, _, e => by cases e
  | p :: ps, v :: vals, m, hn, e => by
    rw [List.zip_cons_cons, List.lookup_cons] at e
    rw [List.nodup_cons] at hn
    rw [List.zip_cons_cons]
    unfold bindL
    cases q : x == p with
    | true =>
      rw [q] at e
      cases e
      have := beq_iff_eq.mp q
      subst this
      rw [bindL_skip (zip_key hn.1), if_pos hk]
      simp
    | false =>
      rw [q] at e
      exact bindL_at hk hn.2 e
theorem bindC_at {kindOf : Str → Option NameKind} {x : Str} {val : Value} (hk : ¬ kindOf x = some .local) : ∀ {ps : List Str} {vals : List Value} {m : Str → Option Value}, ps.Nodup → (ps.zip vals).lookup x = some val → bindC kindOf (ps.zip vals) m x = some val
  | [], _, _, _, e => by cases e
  | _ :: _, [], _, _, e => by cases e
  | p :: ps, v :: vals, m, hn, e => by
    rw [List.zip_cons_cons, List.lookup_cons] at e
    rw [List.nodup_cons] at hn
    rw [List.zip_cons_cons]
    unfold bindC
    cases q : x == p with
    | true =>
      rw [q] at e
      cases e
      have := beq_iff_eq.mp q
      subst this
      rw [bindC_skip (zip_key hn.1), if_neg hk]
      simp
    | false =>
      rw [q] at e
      exact bindC_at hk hn.2 e

theorem cells_some {x : Str} : ∀ (names : List (Str × NameKind)) (n : Nat) (acc : List (Str × Addr)), (names.lookup x = some .cell ∨ (acc.lookup x).isSome = true) → ((cellsFrom n names acc).lookup x).isSome = true
  | [], _, _, h => by
    rcases h with h | h
    · cases h
    · exact h
  | (y, k) :: r, n, acc, h => by
    unfold cellsFrom
    have up : ∀ {b}, (acc.lookup x).isSome = true → (((y, b) :: acc).lookup x).isSome = true := fun {b} e => by
      rw [List.lookup_cons]
      split
      · rfl
      · exact e
    split
    · refine cells_some r _ _ ?_
      rcases h with h | h
      · rw [List.lookup_cons] at h
        split at h
        · rename_i q
          right
          rw [List.lookup_cons, q]
          rfl
        · exact .inl h
      · exact .inr (up h)
    · rename_i hk
      refine cells_some r _ _ ?_
      rcases h with h | h
      · rw [List.lookup_cons] at h
        split at h
        · cases h
          exact absurd rfl hk
        · exact .inl h
      · exact .inr h

section
variable {h₀ h : Heap} {W : List Addr}
theorem lk_zip {x : Str} {v : AV} : ∀ {ps : List Str} {vs : List AV} {vals : List Value}, RVs h₀ h W vs vals → lk (ps.zip vs) x = some v → x ∈ ps ∧ ∃ val, (ps.zip vals).lookup x = some val ∧ RV h₀ h W v val
  | [], _, _, _, e => by cases e
  | _ :: _, _, _, .nil, e => by cases e
  | p :: ps, _, _, .cons r rs, e => by
    rw [List.zip_cons_cons] at e ⊢
    unfold lk at e
    rw [List.lookup_cons]
    simp only at e
    cases q : sEq p x with
    | true =>
      rw [q] at e
      cases e
      have := sEq_iff.mp q
      subst this
      exact ⟨.head _, _, by simp, r⟩
    | false =>
      rw [q] at e
      have hne : (x == p) = false := by simpa using fun e => sEq_false.mp q e.symm
      obtain ⟨h1, val, h2, h3⟩ := lk_zip rs e
      exact ⟨.tail _ h1, val, by rw [hne]; exact h2, h3⟩
end

theorem filterMap_zip : ∀ {ps : List Str} {vals : List Value} {all : List (Str × Value)}, ps.Nodup → ps.length = vals.length → (∀ x v, (x, v) ∈ ps.zip vals → all.lookup x = some v) → ps.filterMap (fun n => (all.lookup n).map (n, ·)) = ps.zip vals
  | [], _, _, _, _, _ => rfl
  | _ :: _, [], _, _, h, _ => by cases h
  | p :: ps, v :: vals, all, hn, hl, h => by
    rw [List.nodup_cons] at hn
    rw [List.filterMap_cons, h p v (.head _), List.zip_cons_cons]
    simp only [Option.map_some, List.cons.injEq, true_and]
    exact filterMap_zip hn.2 (by simpa using hl) fun x v m => h x v (.tail _ m)
theorem zip_lookup : ∀ {ps : List Str} {vals : List Value}, ps.Nodup → ∀ x v, (x, v) ∈ ps.zip vals → (ps.zip vals).lookup x = some v
  | [], _, _, _, _, m => by cases m
  | _ :: _, [], _, _, _, m => by cases m
  | p :: ps, u :: vals, hn, x, v, m => by
    rw [List.nodup_cons] at hn
    rw [List.zip_cons_cons] at m ⊢
    rw [List.lookup_cons]
    rcases List.mem_cons.mp m with e | m
    · cases e; simp
    · have hx : x ∈ ps := (List.of_mem_zip m).1
      have hne : (x == p) = false := by simpa using fun e : x = p => hn.1 (e ▸ hx)
      rw [hne]
      exact zip_lookup hn.2 x v m

theorem bindArgs_plain {fd : FuncData} {ps : List Str} {vals : List Value} (hps : fd.params.args.map (·.arg) = ps) (po : fd.params.posonlyargs = []) (ko : fd.params.kwonlyargs = []) (va : fd.params.vararg = none) (kw : fd.params.kwarg = none) (df : fd.defaults = .none)
    (hl : ps.length = vals.length) (hn : ps.Nodup) : bindArgs fd ⟨vals, []⟩ = pure (ps.zip vals) := by
  have hmiss : (ps.filter fun n => ((ps.zip vals).lookup n).isNone) = [] := by
    rw [List.filter_eq_nil_iff]
    intro x hx
    obtain ⟨i, hi⟩ := List.mem_iff_getElem?.mp hx
    have hi' := (List.getElem?_eq_some_iff.mp hi).1
    have : ∃ v, (x, v) ∈ ps.zip vals := by
      refine ⟨vals[i]'(by omega), ?_⟩
      refine List.mem_iff_getElem?.mpr ⟨i, ?_⟩
      rw [List.getElem?_zip_eq_some]
      exact ⟨hi, List.getElem?_eq_getElem _⟩
    obtain ⟨v, hv⟩ := this
    rw [zip_lookup hn x v hv]
    simp
  have htk : List.take vals.length ps = ps := List.take_of_length_le (by omega)
  unfold bindArgs
  simp only [po, ko, va, kw, df, hps, List.map_nil, List.nil_append, List.append_nil]
  simp [seqItems?, notAStandIn, hl, htk, hmiss, filterMap_zip hn hl (zip_lookup hn)]
end Mine
end
section
open PySem PySem.W PySem.SeqAt PyProof.Rows
set_option maxRecDepth 100000
set_option linter.unusedVariables false
namespace Mine
section
variable {prog : Program} {w : World} {K : Frag} {h₀ : Heap} {W : List Addr} {σ σ' : Sto} {s : Shared} {A : Around} {env : Env} {c : Cx} {ρ : Rho} {R : Rec}

theorem Stp.drop {F : Addr → Prop} {h h1 h2 : Heap} {W2 : List Addr} {σ2 : Sto} (S1 : Stp NoF h W σ h1 W σ) (S2 : Stp F h1 W σ h2 W2 σ2) (hF : ∀ b, F b → h.get? b = none) : Stp NoF h W σ h2 W2 σ2 := by
  refine ⟨?_, fun b o m _ e => S2.keep b o m (fun f => by rw [hF b f] at e; cases e) (S1.keep b o m (fun q => q) e), fun b o e => ?_, fun i c e => ?_⟩
  · obtain ⟨X, e, hX⟩ := S2.ext
    exact ⟨X, e, fun a m => S1.fresh (hX a m)⟩
  · obtain ⟨o', e'⟩ := S1.live b o e
    exact S2.live b o' e'
  · obtain ⟨c', e', l', q'⟩ := S1.ver i c e
    obtain ⟨c'', e'', l'', q''⟩ := S2.ver i c' e'
    refine ⟨c'', e'', Nat.le_trans l' l'', fun q => ?_⟩
    have h1 : c.ver = c'.ver := by omega
    have h2 : c'.ver = c''.ver := by omega
    refine ⟨(q'' h2).1.trans (q' h1).1, fun a ea => ?_⟩
    rw [(q'' h2).2 a ea, (q' h1).2 a ea]

theorem get_ge {h : Heap} {a : Addr} (l : h.objs.size ≤ a) : h.get? a = none := by
  cases q : h.get? a with
  | none => rfl
  | some o => exact absurd (Heap.lt_size q) (Nat.not_lt.mpr l)

theorem frame_ok {a : Addr} {F : Fn} {o : Obj} {fd : FuncData} {vs : List AV} {vals : List Value} {s₁ : Shared} (k : FnOk h₀ a F o fd) (S0 : SR prog w h₀ s.heap W σ) (hl : F.ps.length = vals.length)
    (x : InCallC s (callEnvC fd s.heap.objs.size a).locals (bindL (callEnvC fd s.heap.objs.size a).kindOf (F.ps.zip vals) fun _ => none) (callEnvC fd s.heap.objs.size a).cells (bindC (callEnvC fd s.heap.objs.size a).kindOf (F.ps.zip vals) fun _ => none) s₁)
    (rs : RVs h₀ s₁.heap W vs vals) : FrOk h₀ (callEnvC fd s.heap.objs.size a) F.sc (F.ps.zip vs) s₁.heap W := by
  have hko : ∀ y, (callEnvC fd s.heap.objs.size a).kindOf y = kindIn F.sc y := fun y => by
    rw [kindIn_eq, ← k.names]; rfl
  have hn := nodupS_iff k.nodup
  have h0 : ∀ {b : Addr}, s.heap.objs.size ≤ b → h₀.get? b = none := fun {b} l => by
    cases q : h₀.get? b with
    | none => rfl
    | some o => have := S0.old _ _ q; rw [get_ge l] at this; cases this
  have hW : ∀ {b : Addr}, s.heap.objs.size ≤ b → b ∉ W := fun {b} l m => absurd (S0.lt m) (Nat.not_lt.mpr l)
  have cells : ∀ y, kindIn F.sc y = some .cell → ∃ c, (callEnvC fd s.heap.objs.size a).cells.lookup y = some c := fun y e => by
    have : ((cellsFrom (s.heap.objs.size + 1) fd.scope.names []).lookup y).isSome = true := cells_some _ _ _ (.inl (by rw [k.names, ← kindIn_eq]; exact e))
    exact Option.isSome_iff_exists.mp this
  refine ⟨k.kind, k.globals, k.builtins, ⟨_, x.toInCall.ns, fun y v e hk => ?_⟩, fun y v e hk => ?_, fun y e => (hko y).trans e, fun y e => (hko y).trans e, fun y e => ?_, fun y e => absurd e (k.nofree y), x.apart, fun y c e => ?_, hW (Nat.le_refl _), h0 (Nat.le_refl _)⟩
  · obtain ⟨_, val, h1, h2⟩ := lk_zip rs e
    exact ⟨val, bindL_at hk hn h1, h2⟩
  · obtain ⟨hm, val, h1, h2⟩ := lk_zip rs e
    have hloc := k.loc y hm
    have hkc : kindIn F.sc y = some .cell := by
      unfold isLocal at hloc
      rw [hko y] at hk
      split at hloc
      · rename_i q; exact absurd q hk
      · rename_i q; exact q
      · cases hloc
    obtain ⟨c, hc⟩ := cells y hkc
    refine ⟨.inl ((hko y).trans hkc), c, val, hc, ?_, h2⟩
    have := x.cell y c hc
    rw [bindC_at hk hn h1] at this
    exact this
  · obtain ⟨c, hc⟩ := cells y e
    exact ⟨(hko y).trans e, c, _, hc, x.cell y c hc⟩
  · have hab := x.above y c (mem_of_lookup e)
    have hab' : s.heap.objs.size < c := hab
    exact ⟨fun q => absurd hab (q ▸ Nat.lt_irrefl _), hW (Nat.le_of_lt hab'), h0 (Nat.le_of_lt hab'), _, x.cell y c e⟩

noncomputable def flOut : Fl → AV
  | .ret v => v
  | .next => .none

theorem fn_ok (B : Bs prog w K h₀) (ihx : ExS prog w h₀ R.ex) {d : Nat} {a : Addr} {F : Fn} {vs : List AV} {vals : List Value} {fl : Fl} {ρ' : Rho} {v : AV} (hF : fnAt K a = some F) (hlen : F.ps.length = vs.length)
    (e : R.ex ⟨d, F.sc⟩ (F.ps.zip vs) σ F.body = some (fl, ρ', σ')) (hv : flOut fl = v) (hA : AOk A (d + 1)) (S0 : SR prog w h₀ s.heap W σ) (rs : RVs h₀ s.heap W vs vals) :
    Gives prog w h₀ NoF W σ s A (call (.ref a) vals) v σ' := by
  obtain ⟨o, fd, k⟩ := B.fns a F hF
  have hl : F.ps.length = vals.length := hlen.trans rs.length
  have hn := nodupS_iff k.nodup
  have hdp := hA.dp
  have hun := hA.un
  have hA' : ∀ env, AOk (A.deeper env) d := fun env => ⟨hA.hd, by show A.units + 3 + 60 * (d + 1) < cLine; omega, by show A.depth + 1 + 2 * (d + 1) < recursionLimit; omega⟩
  intro E Q q
  refine wpAny_call (codeAny_call_cells (binds := F.ps.zip vals) (by omega) (S0.old _ _ k.here) k.data (B.lim.keeps S0.old) (k.code.keeps S0.old) k.body (bindArgs_plain k.ps k.po k.ko k.va k.kw k.df hl hn) k.closure (fun x hx => ?_) (fun s₁ x => ?_) k.co k.gen k.kind)
  · have hm := (List.of_mem_zip (a := x.1) (b := x.2) hx).1
    have hloc := k.loc x.1 hm
    unfold isLocal at hloc
    rw [kindIn_eq, ← k.names] at hloc
    split at hloc
    · rename_i q; exact .inl q
    · rename_i q; exact .inr ⟨q, cells_some _ _ _ (.inl q)⟩
    · cases hloc
  · obtain ⟨h1, tk1, rfl, hk1⟩ := x.done
    obtain ⟨R1, S1⟩ := S0.grow0 hk1
    have fr := frame_ok k S0 hl x (RVs.stp S1 S0 (niNo _) rs)
    refine ihx ⟨d, F.sc⟩ _ σ F.body fl ρ' σ' e (A.deeper _) _ { s with heap := h1, toks := tk1 } W (hA' _) fr R1 _ _ fun h2 tk2 W2 flv S2 R2 f2 hfl => ?_
    have S3 : Stp NoF s.heap W σ h2 W2 σ' := Stp.drop S1 S2 fun b p => by
      rcases p with rfl | ⟨y, hy⟩
      · exact get_ge (Nat.le_refl _)
      · have := x.above y b (mem_of_lookup hy)
        exact get_ge (Nat.le_of_lt this)
    cases fl with
    | next =>
      cases flv with
      | next => subst hv; exact q h2 tk2 W2 _ S3 R2 .none
      | _ => exact hfl.elim
    | ret v' =>
      cases flv with
      | ret val => subst hv; exact q h2 tk2 W2 _ S3 R2 hfl
      | _ => exact hfl.elim

theorem ev_Plain (B : Bs prog w K h₀) (ih : EvS prog w h₀ R.ev) (ihx : ExS prog w h₀ R.ex) {f : Expr} {args : List Expr} {pos : Pos} {v : AV} (hna : ∀ o n p, f ≠ .Attribute o n p)
    (e : ((R.ev c ρ σ f).bind fun x => (evAll R c ρ x.2 args).bind fun p => doCall K R c p.2 x.1 p.1) = some (v, σ')) (hA : AOk A c.d)
    (fr : FrOk h₀ env c.sc ρ s.heap W) (S0 : SR prog w h₀ s.heap W σ) : Gives prog w h₀ NoF W σ s A (eval (.Call f args [] pos) env) v σ' := by
  obtain ⟨⟨g, σ1⟩, e1, e⟩ := Option.bind_eq_some_iff.mp e
  obtain ⟨⟨vs, σ2⟩, e2, e⟩ := Option.bind_eq_some_iff.mp e
  have hev : eval (.Call f args [] pos) env = (do callWith pos (← eval f env) [] (backTo pos (starEach args env)) []) := by
    cases f <;> first | rfl | exact absurd rfl (hna _ _ _)
  intro E Q q
  rw [hev]
  refine wpAny_bind (ih c ρ σ f g σ1 e1 A env s W hA fr S0 _ _ fun h1 tk1 W1 vg S1 R1 rg => ?_)
  have f1 := fr.stp S0 S1
  obtain ⟨g1, _, _⟩ := evAll_star (env := env) e2 pos
  cases g with
  | bi b =>
    simp only [doCall] at e
    cases rg with
    | bi hb =>
    subst hb
    have go : ∀ (E : Value → Shared → Prop) (Q : Value → Shared → Prop), (∀ h' tk W' val, Stp NoF s.heap W σ h' W' σ' → SR prog w h₀ h' W' σ' → RV h₀ h' W' v val → Q val { s with heap := h', toks := tk }) →
        wpAny (model prog w) A (evalArgs (biVal b) true (backTo pos (starEach args env)) []) (fun a s₁ => wpAny (model prog w) A (call (biVal b) ([] ++ a.pos) a.kw) Q E s₁) E { s with heap := h1, toks := tk1 } := fun E Q q =>
      evArgs_ok ih hA (s := { s with heap := h1, toks := tk1 }) e2 f1 R1 _ _ fun h2 tk2 W2 vals S2 R2 rs =>
        bi_ok hA.hd (s := { s with heap := h2, toks := tk2 }) e R2 rs _ _ fun h3 tk3 W3 vb S3 R3 rb => q h3 tk3 W3 vb ((S1.trans S2).trans S3) R3 rb
    cases b with
    | len => exact Calls.callWith_builtin (id := "len") g1 (go E Q q)
    | abs => exact Calls.callWith_builtin (id := "abs") g1 (go E Q q)
    | max => exact Calls.callWith_builtin (id := "max") g1 (go E Q q)
    | min => exact Calls.callWith_builtin (id := "min") g1 (go E Q q)
    | sorted => exact Calls.callWith_builtin (id := "sorted") g1 (go E Q q)
    | range => exact PySem.callWith_type (T := "range") g1 (go E Q q)
    | list => exact PySem.callWith_type (T := "list") g1 (go E Q q)
    | tuple => exact PySem.callWith_type (T := "tuple") g1 (go E Q q)
    | dict => exact PySem.callWith_type (T := "dict") g1 (go E Q q)
    | str => exact PySem.callWith_type (T := "str") g1 (go E Q q)
  | fn a =>
    simp only [doCall] at e
    cases rg
    cases hd : c.d with
    | zero => rw [hd] at e; cases e
    | succ d =>
    rw [hd] at e
    simp only at e
    obtain ⟨F, e3, e⟩ := Option.bind_eq_some_iff.mp e
    split at e <;> (try (cases e; done))
    rename_i hlen
    obtain ⟨⟨fl, ρ', σ3⟩, e4, e⟩ := Option.bind_eq_some_iff.mp e
    have hlen' := Nat.eq_of_beq_eq_true hlen
    rw [lenN_eq, lenN_eq] at hlen'
    have hvv : flOut fl = v ∧ σ3 = σ' := by
      cases fl <;> (simp only [Option.some.injEq, Prod.mk.injEq] at e; exact e)
    obtain ⟨hv, rfl⟩ := hvv
    obtain ⟨o, fd, k⟩ := B.fns a F e3
    refine Calls.callWith_function (o := o) (fd := fd) (evArgs_ok ih hA (s := { s with heap := h1, toks := tk1 }) e2 f1 R1 _ _ fun h2 tk2 W2 vals S2 R2 rs => ?_)
    refine ⟨⟨R2.old _ _ k.here, k.data⟩, ?_⟩
    refine fn_ok B ihx (s := { s with heap := h2, toks := tk2 }) e3 hlen' e4 hv (by rw [← hd]; exact hA) R2 rs _ _ fun h3 tk3 W3 vb S3 R3 rb => ?_
    exact q h3 tk3 W3 vb ((S1.trans S2).trans S3) R3 rb
  | _ => simp [doCall] at e
end
end Mine
end
section
open PySem PySem.W PySem.SeqAt PyProof.Rows
set_option maxRecDepth 100000
set_option linter.unusedVariables false
namespace Mine

noncomputable def RawD (h : Heap) (d : Addr) (l : List (Value × Value)) (ep : Nat) : Prop :=
  ∃ o es, h.get? d = some o ∧ o.cls = .type "dict" ∧ o.data = .dict es ep ∧ es.toList.map (fun e => (e.key, e.val)) = l

section
variable {prog : Program} {w : World} {A : Around} {E : Value → Shared → Prop} {s : Shared}

theorem rawIter {v d : Addr} {l : List (Value × Value)} {ep : Nat} {Q : Value → Shared → Prop} (hv : IsView s.heap v d) (hm : RawD s.heap d l ep)
    (hQ : Q (.ref s.heap.objs.size) { s with heap := s.heap.push { cls := .type "dict_itemiterator", data := .fields #[.none, .bool false, .ref d, .int 0 0, .int l.length 0, .int ep 0, .none, .none] } }) :
    wpAny (model prog w) A (pyIter (.ref v)) Q E s := by
  obtain ⟨ov, hov, hcv, hdv⟩ := id hv
  obtain ⟨o, es, ho, hc, hdat, hl⟩ := id hm
  have hT : s.TypeIs (.ref v) "dict_items" := ⟨ov, hov, hcv⟩
  have hsz : es.size = l.length := by rw [← hl]; simp
  have hown : Builtin.Dict_items.ownsTuple "dict_itemiterator" = true := by decide
  refine wpAny_pyIter_slot hT PySem.F.slot_dict_items_iter (wpAny_call_entry PySem.F.slot_dict_items_iter hT PySem.F.entry_dict_items_iter ?_ (PySem.F.args_dict_items_iter_1 _))
  unfold Builtin.«dict_items.__iter__»
  refine wpAny_bind (wpAny_pure (wpAny_bind ?_))
  unfold Builtin.Dict_items.dictOf
  refine wpAny_bind (wpAny_field hov hdv (x := .ref d) rfl (wpAny_pure (wpAny_bind ?_)))
  unfold Builtin.Dict_items.newIterator
  refine wpAny_bind (wpAny_dictEntries ho hdat (wpAny_bind (wpAny_dictEpoch ho hdat ?_)))
  simp only [hown, if_true]
  refine wpAny_newObj_type (wpAny_pure ⟨_, rfl, "dict_itemiterator", _, ⟨_, Heap.get?_push_size _ rfl, rfl⟩, PySem.F.slot_dict_itemiterator_next.lookup, ?_⟩)
    (by simp only [sizeOk, Builtin.Dict_items.ownedTupleFields, List.size_toArray, List.length_append, List.length_cons, List.length_nil, sizeLine_eq]; omega)
  simpa [rawInt, hsz, Builtin.Dict_items.ownedTupleFields] using hQ

theorem rawNext {it d : Addr} {i ep : Nat} {l : List (Value × Value)} {k v ok ov : Value} {Q : Option Value → Shared → Prop} (hit : IsItemIter s.heap it d i l.length ep ok ov)
    (hm : RawD s.heap d l ep) (hx : l[i]? = some (k, v))
    (hQ : ∀ h', IsItemIterOut h' it d (i + 1) l.length ep k v s.heap.objs.size → h'.get? s.heap.objs.size = some { cls := .type "tuple", data := .seq #[k, v] } →
      (∀ b o, b ≠ it → s.heap.get? b = some o → h'.get? b = some o) → Q (some (.ref s.heap.objs.size)) { s with heap := h' }) :
    wpAny (model prog w) A (pyNext (.ref it)) Q E s := by
  obtain ⟨hp, g, dr, tk, os⟩ := s
  obtain ⟨od, es, hod, hcd, hdd, hl⟩ := id hm
  have hT : Shared.TypeIs ⟨hp, g, dr, tk, os⟩ (.ref it) "dict_itemiterator" := ⟨_, hit, rfl⟩
  have hown : Builtin.Dict_items.ownsTuple "dict_itemiterator" = true := by decide
  have hsz : es.size = l.length := by rw [← hl]; simp
  have hlt : i < l.length := (List.getElem?_eq_some_iff.mp hx).1
  have hlt' : i < es.size := by rw [hsz]; exact hlt
  have hkv : es[i].key = k ∧ es[i].val = v := by
    rw [← hl, List.getElem?_map, Array.getElem?_toList, Array.getElem?_eq_getElem hlt'] at hx
    simpa using hx
  unfold pyNext
  refine wpAny_bind (wpAny_attempt (wpAny_callSpecial?_slot (name := Str.ofString "__next__") hT PySem.F.slot_dict_itemiterator_next
    (wpAny_call_entry PySem.F.slot_dict_itemiterator_next hT PySem.F.entry_dict_itemiterator_next ?_ (PySem.F.args_dict_itemiterator_next_1 _))))
  refine wpAny_bind (wpAny_pure (wpAny_bind (wpAny_bind ?_)))
  first | refine wpAny_bind (wpAny_typeNameOfWhole_itemiter hT (wpAny_pure ?_)) | refine wpAny_bind (wpAny_typeNameOf_itemiter hT (wpAny_pure ?_))
  refine wpAny_bind (wpAny_fieldsOf hit rfl ?_)
  simp only [hown, if_true]
  show wpAny _ _ (if (Value.ref d == Value.none) = true then _ else _) _ _ _
  rw [if_neg (show ¬ ((Value.ref d == Value.none) = true) from Bool.false_ne_true)]
  refine wpAny_bind (wpAny_pure (wpAny_bind (wpAny_dictEntries hod hdd ?_)))
  rw [if_neg (by rw [hsz]; simp)]
  refine wpAny_bind (wpAny_pure (wpAny_bind (wpAny_dictEpoch hod hdd ?_)))
  rw [if_neg (by simp)]
  refine wpAny_pure ?_
  simp only [show ¬ ((i : Int) < 0) from by omega, if_false, Int.toNat_natCast, Array.getElem?_eq_getElem hlt']
  refine wpAny_bind ?_
  first | refine wpAny_bind (wpAny_typeNameOfWhole_itemiter hT (wpAny_pure ?_)) | refine wpAny_bind (wpAny_typeNameOf_itemiter hT (wpAny_pure ?_))
  refine wpAny_bind (wpAny_isOneOf_itemiter hT ?_)
  show wpAny _ _ (setField (.ref it) 3 (rawInt ((i : Int) + 1)) >>= _) _ _ ⟨hp, g, dr, tk, os⟩
  refine wpAny_bind (wpAny_setField_rec hit (by simp) fun h₁ he₁ hs₁ => ?_)
  have hs₁' : Heap.SameBut it hp h₁ := hs₁
  have he₁' : IsItemIter h₁ it d (i + 1) l.length ep ok ov := by
    have e : ((i + 1 : Nat) : Int) = (i : Int) + 1 := by omega
    unfold IsItemIter; rw [e]; simpa [rawInt] using he₁
  have hT₁ : Shared.TypeIs ⟨h₁, g, dr, tk, os⟩ (.ref it) "dict_itemiterator" := ⟨_, he₁', rfl⟩
  refine wpAny_bind (wpAny_holding (wpAny_bind (wpAny_isOneOf_itemiter hT₁ (wpAny_bind (wpAny_isOneOf_itemiter hT₁ ?_)))))
  show wpAny _ _ (Builtin.Dict_items.pairFromOwner (.ref it) 6 es[i].key es[i].val) _ _ ⟨h₁, g, dr, tk, os⟩
  rw [hkv.1, hkv.2]
  unfold Builtin.Dict_items.pairFromOwner
  refine wpAny_bind (wpAny_newTuple ?_)
  have he₂ : IsItemIter (h₁.push { cls := .type "tuple", data := .seq #[k, v] }) it d (i + 1) l.length ep ok ov := Heap.get?_push_of_some _ he₁'
  generalize hh₂ : h₁.push { cls := .type "tuple", data := .seq #[k, v] } = h₂ at he₂
  have hz₁ : h₁.objs.size = hp.objs.size := hs₁'.1
  have hil : it < hp.objs.size := Heap.lt_size hit
  have ht₂ : h₂.get? hp.objs.size = some { cls := .type "tuple", data := .seq #[k, v] } := by rw [← hh₂, ← hz₁]; exact Heap.get?_push_size _ rfl
  have hk₂ : ∀ b o, b ≠ it → hp.get? b = some o → h₂.get? b = some o := fun b o hb e => by rw [← hh₂]; exact Heap.get?_push_of_some _ (hs₁'.extBut b o hb e)
  show wpAny _ _ (Builtin.Dict_items.ownedTupleIsFree (.ref it) >>= _) _ _ ⟨h₂, g, dr, tk, os⟩
  rw [hz₁]
  refine wpAny_bind ?_
  unfold Builtin.Dict_items.ownedTupleIsFree
  refine wpAny_bind (wpAny_field (s := ⟨h₂, g, dr, tk, os⟩) he₂ rfl (x := .none) rfl (wpAny_pure ?_))
  simp only [if_true]
  refine wpAny_bind (wpAny_field (s := ⟨h₂, g, dr, tk, os⟩) he₂ rfl (x := ok) rfl ?_)
  refine wpAny_bind (wpAny_field (s := ⟨h₂, g, dr, tk, os⟩) he₂ rfl (x := ov) rfl ?_)
  refine wpAny_bind (wpAny_setField_rec (s := ⟨h₂, g, dr, tk, os⟩) he₂ (by simp) fun h₃ he₃ hs₃ => ?_)
  have hs₃' : Heap.SameBut it h₂ h₃ := hs₃
  have he₃' : IsItemIter h₃ it d (i + 1) l.length ep k ov := he₃
  refine wpAny_bind (wpAny_setField_rec (s := ⟨h₃, g, dr, tk, os⟩) he₃' (by simp) fun h₄ he₄ hs₄ => ?_)
  have hs₄' : Heap.SameBut it h₃ h₄ := hs₄
  have he₄' : IsItemIter h₄ it d (i + 1) l.length ep k v := he₄
  refine wpAny_bind (wpAny_setField_rec (s := ⟨h₄, g, dr, tk, os⟩) he₄' (by simp) fun h₅ he₅ hs₅ => ?_)
  have hs₅' : Heap.SameBut it h₄ h₅ := hs₅
  have he₅' : IsItemIterOut h₅ it d (i + 1) l.length ep k v hp.objs.size := he₅
  refine wpAny_bind (wpAny_setField_rec (s := ⟨h₅, g, dr, tk, os⟩) he₅' (by simp) fun h₆ he₆ hs₆ => ?_)
  have hs₆' : Heap.SameBut it h₅ h₆ := hs₆
  have he₆' : IsItemIterOut h₆ it d (i + 1) l.length ep k v hp.objs.size := he₆
  have up : ∀ b o, b ≠ it → h₂.get? b = some o → h₆.get? b = some o := fun b o hb e => hs₆'.extBut b o hb (hs₅'.extBut b o hb (hs₄'.extBut b o hb (hs₃'.extBut b o hb e)))
  exact wpAny_bind (wpAny_letGo (wpAny_pure (wpAny_pure ⟨_, rfl, wpAny_pure (hQ h₆ he₆' (up _ _ (Nat.ne_of_gt hil) ht₂) fun b o hb e => up b o hb (hk₂ b o hb e))⟩)))

theorem rawEnd {it d : Addr} {i ep : Nat} {l : List (Value × Value)} {ok ov : Value} {Q : Option Value → Shared → Prop} (hh : A.handled = none) (hit : IsItemIter s.heap it d i l.length ep ok ov)
    (hm : RawD s.heap d l ep) (hx : l[i]? = none)
    (hQ : ∀ h', Heap.ExtBut it s.heap h' → Q none { s with heap := h' }) : wpAny (model prog w) A (pyNext (.ref it)) Q E s := by
  obtain ⟨od, es, hod, hcd, hdd, hl⟩ := id hm
  have hT : s.TypeIs (.ref it) "dict_itemiterator" := ⟨_, hit, rfl⟩
  have hown : Builtin.Dict_items.ownsTuple "dict_itemiterator" = true := by decide
  have hsz : es.size = l.length := by rw [← hl]; simp
  have hge : es.size ≤ i := by rw [hsz]; simpa using hx
  unfold pyNext
  refine wpAny_bind (wpAny_attempt (wpAny_callSpecial?_slot (name := Str.ofString "__next__") hT PySem.F.slot_dict_itemiterator_next
    (wpAny_call_entry PySem.F.slot_dict_itemiterator_next hT PySem.F.entry_dict_itemiterator_next ?_ (PySem.F.args_dict_itemiterator_next_1 _))))
  refine wpAny_bind (wpAny_pure (wpAny_bind (wpAny_bind ?_)))
  first | refine wpAny_bind (wpAny_typeNameOfWhole_itemiter hT (wpAny_pure ?_)) | refine wpAny_bind (wpAny_typeNameOf_itemiter hT (wpAny_pure ?_))
  refine wpAny_bind (wpAny_fieldsOf hit rfl ?_)
  simp only [hown, if_true]
  show wpAny _ _ (if (Value.ref d == Value.none) = true then _ else _) _ _ s
  rw [if_neg (show ¬ ((Value.ref d == Value.none) = true) from Bool.false_ne_true)]
  refine wpAny_bind (wpAny_pure (wpAny_bind (wpAny_dictEntries hod hdd ?_)))
  rw [if_neg (by rw [hsz]; simp)]
  refine wpAny_bind (wpAny_pure (wpAny_bind (wpAny_dictEpoch hod hdd ?_)))
  rw [if_neg (by simp)]
  refine wpAny_pure ?_
  simp only [show ¬ ((i : Int) < 0) from by omega, if_false, Int.toNat_natCast, Array.getElem?_eq_none hge]
  refine wpAny_bind ?_
  first | refine wpAny_bind (wpAny_typeNameOfWhole_itemiter hT (wpAny_pure ?_)) | refine wpAny_bind (wpAny_typeNameOf_itemiter hT (wpAny_pure ?_))
  show wpAny _ _ (setField (.ref it) 2 .none >>= _) _ _ s
  refine wpAny_bind (wpAny_setField hit rfl (by simp) ?_)
  show wpAny _ _ (newExc (.type "StopIteration") [] >>= _) _ _ _
  refine wpAny_bind ?_
  simp only [newExc, newTuple]
  refine wpAny_bind (wpAny_newObj_type ?_ (by size_fits))
  refine wpAny_bind (m := firstArgMember _ _) (wpAny_of_eq (a := Value.none) (by first | rfl | (simp only [firstArgMember]; rfl)) ?_)
  refine wpAny_newObj_type ?_ (by size_fits)
  simp only [raiseNew]
  refine wpAny_bind (wpAny_handled ?_)
  rw [show A.in1.handled = none from hh]
  refine wpAny_bind (wpAny_pure (wpAny_throw ?_))
  refine wpAny_bind (wpAny_isInstance (T := "StopIteration") (b := true) ⟨_, Heap.get?_push_size _ rfl, rfl⟩ isSubtype_stop ?_)
  exact wpAny_pure (hQ _ (((Heap.SameBut.update ..).extBut.push _).push _))
end
end Mine
end
section
open PySem PySem.W PySem.SeqAt PyProof.Rows
set_option maxRecDepth 100000
set_option linter.unusedVariables false
namespace Mine

noncomputable def frC (env : Env) (sc : List (Str × NameKind)) : Addr → Prop := fun b => b = env.locals ∨ ∃ x, kindIn sc x = some .cell ∧ env.cells.lookup x = some b

section
variable {prog : Program} {w : World} {h₀ h h' : Heap} {W W' : List Addr} {σ σ' : Sto} {s : Shared} {A : Around} {env : Env} {sc : List (Str × NameKind)} {ρ ρ' : Rho}

theorem FrOk.congr (f : FrOk h₀ env sc ρ h W) (e : ∀ x, lk ρ' x = lk ρ x) : FrOk h₀ env sc ρ' h W := by
  obtain ⟨m, hn, hm⟩ := f.ns
  exact ⟨f.kind, f.glob, f.bi, ⟨m, hn, fun x v q k => hm x v (by rw [← e]; exact q) k⟩, fun x v q k => f.cell x v (by rw [← e]; exact q) k, f.gi, f.lo, f.ce, f.fr, f.ap, f.cl, f.lW, f.l0⟩

theorem frC_sub {b : Addr} (p : frC env sc b) : frF env b := by
  rcases p with p | ⟨x, _, p⟩
  · exact .inl p
  · exact .inr ⟨x, p⟩

-- a turned frame object
theorem frame_put (R : SR prog w h₀ h W σ) (f : FrOk h₀ env sc ρ h W) {b : Addr} (p : frC env sc b) (hs : Heap.SameBut b h h') (hb : ∃ o, h'.get? b = some o) :
    SR prog w h₀ h' W σ ∧ Stp (frC env sc) h W σ h' W σ := by
  have pf := frC_sub p
  have k : ∀ c o, ¬ (c = b) → h.get? c = some o → h'.get? c = some o := fun c o n e => (hs.2 c n).trans e
  obtain ⟨R', S⟩ := R.grow (F := fun c => c = b) (h' := h') (fun c o q e => by subst q; exact f.niF _ o pf e) k (fun c o q e => by subst q; exact hb) (fun a m q => f.fW a m (q ▸ pf)) (fun c q => f.f0 c (q ▸ pf))
  exact ⟨R', S.weak fun c q => q ▸ p⟩

theorem setR_local {x : Str} {v : AV} {val : Value} (R : SR prog w h₀ h W σ) (f : FrOk h₀ env sc ρ h W) (hk : env.kindOf x = some .local) (rv : RV h₀ h W v val) {m : Str → Option Value} (hn : h.Ns env.locals m)
    (hm : ∀ y u, lk ρ y = some u → env.kindOf y = some .local → ∃ val, m y = some val ∧ RV h₀ h W u val)
    (hn' : h'.Ns env.locals (fun y => if y = x then some val else m y)) (hs : Heap.SameBut env.locals h h') : FrOk h₀ env sc (setR ρ x v) h' W := by
  obtain ⟨o, _, _, ho, hd, _⟩ := id hn
  have so : Mine.soft o = true := soft_dict (by assumption)
  have cellK : ∀ {y : Str} {c : Addr} {u : Option Value}, env.cells.lookup y = some c → h.IsCell c u → h'.IsCell c u := fun {y c u} m q => by
    obtain ⟨o, ho, hd⟩ := q
    exact ⟨o, (hs.2 c (f.cl y c m).1).trans ho, hd⟩
  refine ⟨f.kind, f.glob, f.bi, ⟨_, hn', fun y u e k => ?_⟩, fun y u e k => ?_, f.gi, f.lo, fun y e => ?_, fun y e => ?_, f.ap, fun y c e => ?_, f.lW, f.l0⟩
  · rw [lk_setR] at e
    by_cases q : y = x
    · subst q
      rw [if_pos rfl] at e
      cases e
      exact ⟨val, by simp, RV.put hs ho so rv⟩
    · rw [if_neg q] at e
      obtain ⟨val', h1, h2⟩ := hm y u e k
      exact ⟨val', by simp [q, h1], RV.put hs ho so h2⟩
  · rw [lk_setR] at e
    by_cases q : y = x
    · subst q; exact absurd hk k
    · rw [if_neg q] at e
      obtain ⟨h1, c, val', h2, h3, h4⟩ := f.cell y u e k
      exact ⟨h1, c, val', h2, cellK h2 h3, RV.put hs ho so h4⟩
  · obtain ⟨h1, c, u, h2, h3⟩ := f.ce y e
    exact ⟨h1, c, u, h2, cellK h2 h3⟩
  · obtain ⟨h1, c, u, h2, h3⟩ := f.fr y e
    exact ⟨h1, c, u, h2, cellK h2 h3⟩
  · obtain ⟨h1, h2, h3, u, h4⟩ := f.cl y c e
    exact ⟨h1, h2, h3, u, cellK e h4⟩

theorem setR_cell {x : Str} {v : AV} {val : Value} {cx : Addr} (f : FrOk h₀ env sc ρ h W) (hk : env.kindOf x = some .cell) (hcx : env.cells.lookup x = some cx) (rv : RV h₀ h W v val)
    (hc' : h'.IsCell cx (some val)) (hs : Heap.SameBut cx h h') : FrOk h₀ env sc (setR ρ x v) h' W := by
  obtain ⟨hcl, _, _, u0, o, ho, hd⟩ := f.cl x cx hcx
  have so : Mine.soft o = true := soft_cell hd
  have nl : env.kindOf x ≠ some .local := by rw [hk]; decide
  have cellK : ∀ {y : Str} {c : Addr} {u : Option Value}, y ≠ x → env.cells.lookup y = some c → h.IsCell c u → h'.IsCell c u := fun {y c u} n m q => by
    obtain ⟨o, ho, hd⟩ := q
    refine ⟨o, (hs.2 c fun e => n ?_).trans ho, hd⟩
    subst e
    exact name_of_addr f.ap (mem_of_lookup m) (mem_of_lookup hcx)
  have cellE : ∀ {y : Str} {c : Addr} {u : Option Value}, env.cells.lookup y = some c → h.IsCell c u → ∃ u, h'.IsCell c u := fun {y c u} m q => by
    by_cases n : y = x
    · subst n; rw [hcx] at m; cases m; exact ⟨_, hc'⟩
    · exact ⟨u, cellK n m q⟩
  obtain ⟨m, ⟨ol, es, ep, hol, ql⟩, hm⟩ := f.ns
  refine ⟨f.kind, f.glob, f.bi, ⟨m, ⟨ol, es, ep, (hs.2 _ (fun e => hcl e.symm)).trans hol, ql⟩, fun y u e k => ?_⟩, fun y u e k => ?_, f.gi, f.lo, fun y e => ?_, fun y e => ?_, f.ap, fun y c e => ?_, f.lW, f.l0⟩
  · rw [lk_setR] at e
    have q : y ≠ x := fun q => nl (q ▸ k)
    rw [if_neg q] at e
    obtain ⟨val', h1, h2⟩ := hm y u e k
    exact ⟨val', h1, RV.put hs ho so h2⟩
  · rw [lk_setR] at e
    by_cases q : y = x
    · subst q
      rw [if_pos rfl] at e
      cases e
      exact ⟨.inl hk, cx, val, hcx, hc', RV.put hs ho so rv⟩
    · rw [if_neg q] at e
      obtain ⟨h1, c, val', h2, h3, h4⟩ := f.cell y u e k
      exact ⟨h1, c, val', h2, cellK q h2 h3, RV.put hs ho so h4⟩
  · obtain ⟨h1, c, u, h2, h3⟩ := f.ce y e
    obtain ⟨u', h3'⟩ := cellE h2 h3
    exact ⟨h1, c, u', h2, h3'⟩
  · obtain ⟨h1, c, u, h2, h3⟩ := f.fr y e
    obtain ⟨u', h3'⟩ := cellE h2 h3
    exact ⟨h1, c, u', h2, h3'⟩
  · obtain ⟨h1, h2, h3, u, h4⟩ := f.cl y c e
    obtain ⟨u', h4'⟩ := cellE e h4
    exact ⟨h1, h2, h3, u', h4'⟩

noncomputable def GivesU (prog : Program) (w : World) (h₀ : Heap) (env : Env) (sc : List (Str × NameKind)) (W : List Addr) (σ : Sto) (s : Shared) (A : Around) (t : Sem Unit) (ρ' : Rho) : Prop :=
  ∀ (E : Value → Shared → Prop) (Q : Unit → Shared → Prop), (∀ h' tk, Stp (frC env sc) s.heap W σ h' W σ → SR prog w h₀ h' W σ → FrOk h₀ env sc ρ' h' W → Q () { s with heap := h', toks := tk }) → wpAny (model prog w) A t Q E s

theorem storeN_ok {x : Str} {v : AV} {val : Value} (hl : isLocal sc x = true) (R : SR prog w h₀ s.heap W σ) (f : FrOk h₀ env sc ρ s.heap W) (rv : RV h₀ s.heap W v val) :
    GivesU prog w h₀ env sc W σ s A (storeName env x val) (setR ρ x v) := by
  intro E Q q
  unfold isLocal at hl
  split at hl
  · rename_i hk
    have hk' := f.lo x hk
    obtain ⟨m, hn, hm⟩ := f.ns
    refine wpAny_storeName_local hk' hn (fun h' hn' hs => ?_) (by rw [f.kind]; rfl)
    obtain ⟨o, _, _, ho, _⟩ := id hn'
    obtain ⟨R', S⟩ := frame_put R f (.inl rfl) hs ⟨o, ho⟩
    exact q h' _ S R' (setR_local R f hk' rv hn hm hn' hs)
  · rename_i hk
    obtain ⟨hk', c, u, hc, hi⟩ := f.ce x hk
    refine wpAny_storeName_cell f.kind hk' hc hi fun h' hc' hs => ?_
    obtain ⟨o, ho, _⟩ := id hc'
    obtain ⟨R', S⟩ := frame_put R f (.inr ⟨x, hk, hc⟩) hs ⟨o, ho⟩
    exact q h' s.toks S R' (setR_cell f hk' hc rv hc' hs)
  · cases hl

theorem bind_ok {x : Str} {v : AV} {val : Value} (hl : isLocal sc x = true) (R : SR prog w h₀ s.heap W σ) (f : FrOk h₀ env sc ρ s.heap W) (rv : RV h₀ s.heap W v val) :
    GivesU prog w h₀ env sc W σ s A (bindName env x val) (setR ρ x v) := fun E Q q => wpAny_bindName (storeN_ok hl R f rv E Q q)

theorem FrOk.niC (f : FrOk h₀ env sc ρ h W) : NI (frC env sc) h := fun b o p e => f.niF b o (frC_sub p) e

theorem setAll_ok : ∀ {xs : List Str} {vs : List AV} {vals : List Value} {ρ ρ' : Rho} {s : Shared} {ts : List (Value → Sem Unit)}, setAll sc ρ xs vs = some ρ' → SR prog w h₀ s.heap W σ → FrOk h₀ env sc ρ s.heap W → RVs h₀ s.heap W vs vals →
    ts.length = xs.length → (∀ (j : Nat) t x, ts[j]? = some t → xs[j]? = some x → ∀ {A : Around} {E : Value → Shared → Prop} {Q : Unit → Shared → Prop} {v : Value} {s : Shared}, wpAny (model prog w) A (bindName env x v) Q E s → wpAny (model prog w) A (t v) Q E s) →
    GivesU prog w h₀ env sc W σ s A (assignInOrder ts vals) ρ'
  | [], vs, vals, ρ, ρ', s, ts, e, R, f, rs, hl, ht => by
    cases vs with
    | cons _ _ => simp [setAll] at e
    | nil =>
      cases e
      cases rs
      have : ts = [] := List.length_eq_zero_iff.mp hl
      subst this
      exact fun E Q q => wpAny_pure (q s.heap s.toks (Stp.refl _ _ _ _) R f)
  | x :: xs, vs, vals, ρ, ρ', s, ts, e, R, f, rs, hl, ht => by
    cases vs with
    | nil => simp [setAll] at e
    | cons v vs =>
      unfold setAll at e
      simp only at e
      split at e <;> (try (cases e; done))
      rename_i hloc
      cases rs with
      | cons r rs =>
      cases ts with
      | nil => cases hl
      | cons t ts =>
        intro E Q q
        show wpAny _ _ (holding _ (t _) >>= fun _ => assignInOrder ts _) Q E s
        refine wpAny_bind (wpAny_holding (ht 0 t x rfl rfl (bind_ok hloc R f r _ _ fun h1 tk1 S1 R1 f1 => ?_)))
        refine setAll_ok (s := { s with heap := h1, toks := tk1 }) e R1 f1 (RVs.stp S1 R f.niC rs) (by simpa using hl) (fun j t' x' e1 e2 => ht (j + 1) t' x' (by simpa using e1) (by simpa using e2)) _ _ fun h2 tk2 S2 R2 f2 => ?_
        exact q h2 tk2 (S1.trans S2) R2 f2

theorem namesOf_each {es : List Expr} : ∀ {xs : List Str}, namesOf es = some xs → xs.length = es.length ∧ (assignEach es env).length = es.length ∧ (assignEach es env).findIdx? (·.1) = none ∧
    (∀ (j : Nat) t x, ((assignEach es env).map (·.2))[j]? = some t → xs[j]? = some x → ∃ p, t = assign (.Name x p) env) ∧ (∀ (j : Nat) (x : Str), xs[j]? = some x → ∃ p, es[j]? = some (Expr.Name x p)) := by
  induction es with
  | nil => intro xs e; cases e; exact ⟨rfl, rfl, rfl, fun j t x e => by simp [assignEach] at e, fun j x e => by simp at e⟩
  | cons y es ih =>
    intro xs e
    unfold namesOf at e
    split at e <;> (try (cases e; done))
    rename_i y p
    obtain ⟨r, e1, e⟩ := Option.bind_eq_some_iff.mp e
    cases e
    obtain ⟨h1, h2, h3, h4, h5⟩ := ih e1
    have hst : assignEach (.Name y p :: es) env = (false, assign (.Name y p) env) :: assignEach es env := rfl
    refine ⟨by simp [h1], by rw [hst]; simp [h2], by rw [hst, List.findIdx?_cons]; simp [h3], fun j t x e1 e2 => ?_, fun j x e => ?_⟩
    · rw [hst] at e1
      cases j with
      | zero => simp at e1 e2; subst e1; subst e2; exact ⟨p, rfl⟩
      | succ j => simp only [List.map_cons, List.getElem?_cons_succ] at e1 e2; exact h4 j t x e1 e2
    · cases j with
      | zero => simp at e; subst e; exact ⟨p, rfl⟩
      | succ j => simp only [List.getElem?_cons_succ] at e ⊢; exact h5 j x e

theorem Stp.of0 {F : Addr → Prop} (S : Stp NoF h W σ h' W' σ') : Stp F h W σ h' W' σ' := S.no F

theorem letTo_ok {t : Expr} {v : AV} {val : Value} (hh : A.handled = none) (e : letTo sc ρ t v = some ρ') (R : SR prog w h₀ s.heap W σ) (f : FrOk h₀ env sc ρ s.heap W) (rv : RV h₀ s.heap W v val) :
    GivesU prog w h₀ env sc W σ s A (assign t env val) ρ' := by
  unfold letTo at e
  split at e
  · split at e <;> (try (cases e; done))
    rename_i hl
    cases e
    intro E Q q
    rw [PySem.assign_Name]
    exact wpAny_bind (wpAny_standAt (bind_ok hl R f rv _ _ q))
  · rename_i es k p
    obtain ⟨xs, e1, e⟩ := Option.bind_eq_some_iff.mp e
    split at e <;> (try (cases e; done))
    have hv : ∃ vs, v = .tup vs := by
      cases v <;> first | exact ⟨_, rfl⟩ | (simp at e)
    obtain ⟨vs, rfl⟩ := hv
    simp only at e
    obtain ⟨a, us, rfl, ht, rs⟩ := rv.tup_inv
    obtain ⟨h1, h2, h3, h4, _⟩ := namesOf_each (env := env) e1
    have hlen : xs.length = vs.length := by
      have go : ∀ {xs : List Str} {vs : List AV} {ρ ρ' : Rho}, setAll sc ρ xs vs = some ρ' → xs.length = vs.length := by
        intro xs
        induction xs with
        | nil => intro vs ρ ρ' e; cases vs with | nil => rfl | cons _ _ => simp [setAll] at e
        | cons x xs ih =>
          intro vs ρ ρ' e
          cases vs with
          | nil => simp [setAll] at e
          | cons v vs =>
            unfold setAll at e
            simp only at e
            split at e <;> (try (cases e; done))
            simp [ih e]
      exact go e
    intro E Q q
    refine wpAny_assign_Tuple hh ht ?_ h3 fun h' hk => ?_
    · rw [h2, ← h1, hlen, rs.length, Array.length_toList]
    · have k0 : ∀ b o, s.heap.get? b = some o → h'.get? b = some o := fun b o e => hk b o (Nat.ne_of_lt (Heap.lt_size e)) e
      obtain ⟨R1, S1⟩ := R.grow0 k0
      refine setAll_ok (s := { s with heap := h' }) e R1 (f.stp R S1) (RVs.stp S1 R (niNo _) rs) (by rw [List.length_map, h2, h1]) (fun j t x e1 e2 A E Q v s hw => ?_) _ _ fun h2 tk2 S2 R2 f2 => ?_
      · obtain ⟨p, rfl⟩ := h4 j t x e1 e2
        rw [PySem.assign_Name]
        exact wpAny_bind (wpAny_standAt hw)
      · exact q h2 tk2 (S1.of0.trans S2) R2 f2
  · cases e
end
end Mine
end
section
open PySem PySem.W PySem.SeqAt PyProof.Rows
set_option maxRecDepth 100000
set_option linter.unusedVariables false
namespace Mine

section
variable (prog : Program) (w : World) (h₀ : Heap)
noncomputable def ItOk (it : It) (I : Addr) (h : Heap) (W : List Addr) (σ : Sto) : Prop := match it.kind with
  | .none => ∃ (t : Addr) (vs : Array Value) (j : Nat), h.IsTupleIter I t j ∧ h.IsTuple t vs ∧ RVs h₀ h W it.rest (vs.toList.drop j)
  | .rng n => ∃ k : Nat, ∃ left : Nat, IsRangeIter h I k left 1 ∧ it.rest = nums k left
  | .ref i => ∃ a c, W[i]? = some a ∧ σ.get i = some c ∧ it.ver ≤ c.ver ∧
      ((∃ (xs : List AV) (j : Nat), h.IsListIter I a j ∧ it.rest = xs.drop j ∧ (c.ver = it.ver → c.body = .list xs)) ∨
       (∃ (kvs : List (Str × Value)) (j ep : Nat), h.IsKeyIter I a j kvs.length ep ∧ it.rest = (kvs.drop j).map (fun p => AV.str p.1) ∧ (c.ver = it.ver → h.DictAt (PySem.strKind prog w) a kvs ep)))
  | .items i => ∃ (a : Addr) (c : Cell) (l : List (Value × Value)) (es : List (AV × AV)) (j ep : Nat) (ok ov : Value), W[i]? = some a ∧ σ.get i = some c ∧ it.ver ≤ c.ver ∧ IsItemIter h I a j l.length ep ok ov ∧ it.rest = (es.drop j).map (fun e : AV × AV => AV.tup [e.1, e.2]) ∧
      RVs h₀ h W (es.map (·.1)) (l.map (·.1)) ∧ RVs h₀ h W (es.map (·.2)) (l.map (·.2)) ∧ (c.ver = it.ver → RawD h a l ep)
  | _ => False
end

section
variable {prog : Program} {w : World} {h₀ h h' : Heap} {W W' : List Addr} {σ σ' : Sto} {s : Shared} {A : Around} {F : Addr → Prop} {it : It} {I : Addr}

theorem ItOk.obj (k : ItOk prog w h₀ it I h W σ) : ∃ o, h.get? I = some o ∧ isImm o = false := by
  unfold ItOk at k
  split at k
  · obtain ⟨t, vs, j, ⟨o, ho, hc, _⟩, _⟩ := k
    exact ⟨o, ho, isImm_of hc rfl rfl rfl⟩
  · obtain ⟨k, l, ho, _⟩ := k
    exact ⟨_, ho, isImm_of rfl rfl rfl rfl⟩
  · obtain ⟨a, c, _, _, _, k⟩ := k
    rcases k with ⟨xs, j, ⟨o, ho, hc, _⟩, _⟩ | ⟨kvs, j, ep, ⟨o, ho, hc, _⟩, _⟩
    · exact ⟨o, ho, isImm_of hc rfl rfl rfl⟩
    · exact ⟨o, ho, isImm_of hc rfl rfl rfl⟩
  · obtain ⟨a, c, l, es, j, ep, ok, ov, _, _, _, ho, _⟩ := k
    exact ⟨_, ho, isImm_of rfl rfl rfl rfl⟩
  · exact k.elim

theorem cell_stp {a : Addr} {c : Cell} {i v : Nat} (S : Stp F h W σ h' W' σ') (ea : W[i]? = some a) (ec : σ.get i = some c) (hv : v ≤ c.ver) :
    ∃ c', W'[i]? = some a ∧ σ'.get i = some c' ∧ v ≤ c'.ver ∧ (c'.ver = v → c.ver = v ∧ c' = c ∧ h'.get? a = h.get? a) := by
  obtain ⟨c', e', l', q'⟩ := S.ver i c ec
  refine ⟨c', S.mem ea, e', Nat.le_trans hv l', fun q => ?_⟩
  have h1 : c.ver = c'.ver := by omega
  exact ⟨by omega, (q' h1).1, (q' h1).2 a ea⟩

theorem ItOk.stp (k : ItOk prog w h₀ it I h W σ) (S : Stp F h W σ h' W' σ') (R : SR prog w h₀ h W σ) (nf : NI F h) (hI : I ∉ W) (hF : ¬ F I) : ItOk prog w h₀ it I h' W' σ' := by
  have kI : ∀ o, h.get? I = some o → h'.get? I = some o := fun o e => S.keep I o hI hF e
  unfold ItOk at k ⊢
  cases hk : it.kind with
  | none =>
    rw [hk] at k
    obtain ⟨t, vs, j, ⟨o, ho, r⟩, ht, rs⟩ := k
    have ht' : h'.IsTuple t vs := by
      obtain ⟨o, ho, hc, n, hd⟩ := ht
      have i1 := imm_tuple hc hd
      refine ⟨o, S.keep t o (fun m => ?_) (fun f => ?_) ho, hc, n, hd⟩
      · have := R.ni t o m ho; rw [i1] at this; cases this
      · have := nf t o f ho; rw [i1] at this; cases this
    exact ⟨t, vs, j, ⟨o, kI o ho, r⟩, ht', RVs.stp S R nf rs⟩
  | rng n =>
    rw [hk] at k
    obtain ⟨k, l, ho, r⟩ := k
    exact ⟨k, l, kI _ ho, r⟩
  | ref i =>
    rw [hk] at k
    obtain ⟨a, c, ea, ec, hv, k⟩ := k
    obtain ⟨c', ea', ec', hv', hq⟩ := cell_stp S ea ec hv
    refine ⟨a, c', ea', ec', hv', ?_⟩
    rcases k with ⟨xs, j, ⟨o, ho, r⟩, hr, hb⟩ | ⟨kvs, j, ep, ⟨o, ho, r⟩, hr, hb⟩
    · exact .inl ⟨xs, j, ⟨o, kI o ho, r⟩, hr, fun q => by rw [(hq q).2.1]; exact hb (hq q).1⟩
    · refine .inr ⟨kvs, j, ep, ⟨o, kI o ho, r⟩, hr, fun q => ?_⟩
      obtain ⟨od, es, hod, rd⟩ := hb (hq q).1
      exact ⟨od, es, (hq q).2.2.trans hod, rd⟩
  | items i =>
    rw [hk] at k
    obtain ⟨a, c, l, es, j, ep, ok, ov, ea, ec, hv, ho, hr, r1, r2, hb⟩ := k
    obtain ⟨c', ea', ec', hv', hq⟩ := cell_stp S ea ec hv
    refine ⟨a, c', l, es, j, ep, ok, ov, ea', ec', hv', kI _ ho, hr, RVs.stp S R nf r1, RVs.stp S R nf r2, fun q => ?_⟩
    obtain ⟨od, ds, hod, rd⟩ := hb (hq q).1
    exact ⟨od, ds, (hq q).2.2.trans hod, rd⟩
  | _ => rw [hk] at k; exact k.elim

theorem letOwned_no {t : Expr} {val : Value} {o : Obj} {n : String} {vs : Array Value} {Q : Unit → Shared → Prop} {E : Value → Shared → Prop} {M : Model} (ho : s.heap.get? I = some o) (hc : o.cls = .type n) (hd : o.data = .fields vs)
    (hn : (["enumerate", "zip", "dict_itemiterator", "dict_reverseitemiterator", "odict_iterator", "itertools.zip_longest", "itertools.pairwise"].contains n) = false) (q : Q () s) : wpAny M A (letOwnedTupleGo t (.ref I) val) Q E s := by
  obtain ⟨c, d, dt, sl⟩ := o
  simp only at hc hd
  subst hc hd
  cases t <;> first
    | exact wpAny_pure q
    | (cases val <;> first
        | exact wpAny_pure q
        | (unfold letOwnedTupleGo
           refine wpAny_bind (wpAny_load ho ?_)
           simp only [hn, Bool.false_and, Bool.false_eq_true, if_false]
           exact wpAny_pure q))

theorem nums_cons (k n : Nat) : nums k (n + 1) = .int (Int.ofNat k) :: nums (k + 1) n := rfl
theorem nums_nil {k : Nat} : ∀ {n : Nat}, nums k n = [] → n = 0
  | 0, _ => rfl
  | n + 1, h => by simp [nums] at h

theorem watch_ver {i : Nat} {c : Cell} (hw : (match σ.get i with | some c => Nat.beq c.ver it.ver | none => false) = true) (ec : σ.get i = some c) : c.ver = it.ver := by
  rw [ec] at hw
  exact Nat.eq_of_beq_eq_true hw

theorem drop_nil {α : Type} {l : List α} {j : Nat} (e : l.drop j = []) : l[j]? = none := by
  rw [List.getElem?_eq_none_iff]; exact List.drop_eq_nil_iff.mp e
theorem drop_cons {α : Type} {l : List α} {j : Nat} {x : α} {r : List α} (e : l.drop j = x :: r) : l[j]? = some x ∧ l.drop (j + 1) = r := by
  constructor
  · have : (l.drop j)[0]? = some x := by rw [e]; rfl
    simpa using this
  · have : l.drop (j + 1) = (l.drop j).drop 1 := by rw [List.drop_drop]
    rw [this, e]; rfl

-- the iterator object turned
theorem iter_put (R : SR prog w h₀ h W σ) (hI : I ∉ W) (hI0 : h₀.get? I = none) (nI : ∃ o, h.get? I = some o ∧ isImm o = false) (k : ∀ b o, b ≠ I → h.get? b = some o → h'.get? b = some o) (lv : ∃ o, h'.get? I = some o) :
    SR prog w h₀ h' W σ ∧ Stp (fun b => b = I) h W σ h' W σ := by
  obtain ⟨o, ho, hi⟩ := nI
  exact R.grow (F := fun b => b = I) (fun b o' q e => by subst q; rw [ho] at e; cases e; exact hi) k (fun b o q e => by subst q; exact lv) (fun a m q => hI (q ▸ m)) (fun b q => by rw [q]; exact hI0)

theorem ni_I (nI : ∃ o, h.get? I = some o ∧ isImm o = false) : NI (fun b => b = I) h := fun b o q e => by
  obtain ⟨o', ho, hi⟩ := nI
  subst q; rw [ho] at e; cases e; exact hi

theorem it_end {t : Expr} (hh : A.handled = none) (R : SR prog w h₀ s.heap W σ) (k : ItOk prog w h₀ it I s.heap W σ) (rd : ready σ it t = true) (hr : it.rest = []) (E : Value → Shared → Prop) (Q : Option Value → Shared → Prop)
    (q : ∀ h', (∀ b o, b ≠ I → s.heap.get? b = some o → h'.get? b = some o) → Q none { s with heap := h' }) : wpAny (model prog w) A (pyNext (.ref I)) Q E s := by
  have hw : watch σ it = true := by
    unfold ready at rd
    split at rd
    · exact rd
    · cases rd
  unfold watch at hw
  unfold ItOk at k
  cases hk : it.kind with
  | none =>
    rw [hk] at k
    obtain ⟨t, vs, j, hit, ht, rs⟩ := k
    rw [hr] at rs
    have hd : vs.toList.drop j = [] := by generalize vs.toList.drop j = l at rs; cases rs; rfl
    exact wpAny_pyNext_tuple_end hh hit ht (by rw [← Array.getElem?_toList]; exact drop_nil hd) fun h' hs => q h' hs
  | rng n =>
    rw [hk] at k
    obtain ⟨k, l, hit, e⟩ := k
    rw [hr] at e
    have := nums_nil e.symm
    subst this
    exact wpAny_pyNext_range_end hh hit (by omega) fun h' hs => q h' hs
  | ref i =>
    rw [hk] at k hw
    obtain ⟨a, c, ea, ec, hv, k⟩ := k
    have hver := watch_ver (it := it) hw ec
    rcases k with ⟨xs, j, hit, e, hb⟩ | ⟨kvs, j, ep, hit, e, hb⟩
    · have rc := R.cell i a c ea ec
      rw [hb hver] at rc
      obtain ⟨vs, hl, rs⟩ := rc
      rw [hr] at e
      have hx : vs[j]? = none := by
        have h1 := rs.length
        have h2 := List.drop_eq_nil_iff.mp e.symm
        rw [← Array.getElem?_toList, List.getElem?_eq_none_iff]
        omega
      exact wpAny_pyNext_list_end hh hit hl.isList hx fun h' hs => q h' hs
    · rw [hr] at e
      have hx : kvs[j]? = none := drop_nil (by simpa using e.symm)
      exact wpAny_pyNext_dict_end hh hit (hb hver) hx fun h' hs => q h' hs
  | items i =>
    rw [hk] at k hw
    obtain ⟨a, c, l, es, j, ep, ok, ov, ea, ec, hv, hit, e, r1, r2, hb⟩ := k
    have hver := watch_ver (it := it) hw ec
    rw [hr] at e
    have h1 : es.drop j = [] := by simpa using e.symm
    have h2 : l[j]? = none := by
      have := r1.length
      simp only [List.length_map] at this
      have h3 := List.drop_eq_nil_iff.mp h1
      rw [List.getElem?_eq_none_iff]
      omega
    exact rawEnd hh hit (hb hver) h2 fun h' hs => q h' hs
  | _ => rw [hk] at k; exact k.elim

theorem it_next {t : Expr} {v : AV} {vs : List AV} (R : SR prog w h₀ s.heap W σ) (k : ItOk prog w h₀ it I s.heap W σ) (hI : I ∉ W) (hI0 : h₀.get? I = none) (rd : ready σ it t = true) (hr : it.rest = v :: vs) (E : Value → Shared → Prop) (Q : Value → Shared → Prop)
    (q : ∀ h' tk val, Stp (fun b => b = I) s.heap W σ h' W σ → SR prog w h₀ h' W σ → ItOk prog w h₀ ⟨it.kind, it.ver, vs⟩ I h' W σ → RV h₀ h' W v val → Q val { s with heap := h', toks := tk }) :
    wpAny (model prog w) A (pyNext (.ref I)) (fun r s' => ∃ val, r = some val ∧ ∀ E', wpAny (model prog w) A (letOwnedTupleGo t (.ref I) val) (fun _ s'' => Q val s'') E' s') E s := by
  have nI := k.obj
  have nii := ni_I nI
  have hw : watch σ it = true := by
    unfold ready at rd
    split at rd
    · exact rd
    · cases rd
  unfold watch at hw
  unfold ItOk at k
  cases hk : it.kind with
  | none =>
    rw [hk] at k
    obtain ⟨t', us, j, hit, ht, rs⟩ := k
    rw [hr] at rs
    have hd : ∃ u r, us.toList.drop j = u :: r ∧ RV h₀ s.heap W v u ∧ RVs h₀ s.heap W vs r := by
      generalize us.toList.drop j = l at rs
      cases rs with | cons r rs => exact ⟨_, _, rfl, r, rs⟩
    obtain ⟨u, r, hd, rv, rs'⟩ := hd
    obtain ⟨hx, hd'⟩ := drop_cons hd
    refine wpAny_pyNext_tuple_item hit ht (by rw [← Array.getElem?_toList]; exact hx) fun h' hit' hs => ⟨u, rfl, fun E' => ?_⟩
    obtain ⟨o, ho, hc, hdt⟩ := id hit'
    obtain ⟨R', S⟩ := iter_put R hI hI0 nI (fun b o n e => (hs.2 b n).trans e) ⟨o, ho⟩
    refine letOwned_no (s := { s with heap := h' }) ho hc hdt rfl ?_
    refine q h' s.toks u S R' ?_ (RV.stp S R nii rv)
    unfold ItOk
    rw [hk]
    have hti : t' ≠ I := fun e => by
      subst e
      obtain ⟨o1, e1, c1, _⟩ := hit
      obtain ⟨o2, e2, c2, _⟩ := ht
      rw [e1] at e2; cases e2
      exact absurd (c1.symm.trans c2) (by simp)
    obtain ⟨o2, e2, r2⟩ := ht
    exact ⟨t', us, j + 1, hit', ⟨o2, (hs.2 _ hti).trans e2, r2⟩, by rw [hd']; exact RVs.stp S R nii rs'⟩
  | rng n =>
    rw [hk] at k
    obtain ⟨k, l, hit, e⟩ := k
    rw [hr] at e
    cases l with
    | zero => simp [nums] at e
    | succ l =>
      rw [nums_cons] at e
      cases e
      refine wpAny_pyNext_range_item hit (by omega) fun h' hit' hs => ⟨_, rfl, fun E' => ?_⟩
      obtain ⟨R', S⟩ := iter_put R hI hI0 nI (fun b o n e => (hs.2 b n).trans e) ⟨_, hit'⟩
      refine letOwned_no (s := { s with heap := h', toks := s.toks + 1 }) hit' rfl rfl rfl ?_
      refine q h' _ _ S R' ?_ (.int _ _)
      unfold ItOk
      rw [hk]
      refine ⟨k + 1, l, ?_, rfl⟩
      have e1 : ((k : Int) + 1) = ((k + 1 : Nat) : Int) := by omega
      have e2 : (((l + 1 : Nat) : Int) - 1) = (l : Int) := by omega
      rw [e1, e2] at hit'
      exact hit'
  | ref i =>
    rw [hk] at k hw
    obtain ⟨a, c, ea, ec, hv, k⟩ := k
    have hver := watch_ver (it := it) hw ec
    rcases k with ⟨xs, j, hit, e, hb⟩ | ⟨kvs, j, ep, hit, e, hb⟩
    · have rc := R.cell i a c ea ec
      rw [hb hver] at rc
      obtain ⟨us, hl, rs⟩ := rc
      rw [hr] at e
      obtain ⟨hx, hd'⟩ := drop_cons e.symm
      obtain ⟨u, hu, ru⟩ := rs.nth (n := j) (x := v) (by rw [nth_eq]; exact hx)
      refine wpAny_pyNext_list_item hit hl.isList (by rw [← Array.getElem?_toList]; exact hu) fun h' hit' hs => ⟨u, rfl, fun E' => ?_⟩
      obtain ⟨o, ho, hc, hdt⟩ := id hit'
      obtain ⟨R', S⟩ := iter_put R hI hI0 nI (fun b o n e => (hs.2 b n).trans e) ⟨o, ho⟩
      refine letOwned_no (s := { s with heap := h' }) ho hc hdt rfl ?_
      refine q h' s.toks u S R' ?_ (RV.stp S R nii ru)
      unfold ItOk
      rw [hk]
      exact ⟨a, c, ea, ec, hv, .inl ⟨xs, j + 1, hit', hd'.symm, hb⟩⟩
    · rw [hr] at e
      have hd : ∃ p r, kvs.drop j = p :: r ∧ v = .str p.1 ∧ vs = r.map (fun p => AV.str p.1) := by
        generalize kvs.drop j = l at e
        cases l with
        | nil => simp at e
        | cons p r => simp only [List.map_cons, List.cons.injEq] at e; exact ⟨p, r, rfl, e.1, e.2⟩
      obtain ⟨p, r, hd, rfl, rfl⟩ := hd
      obtain ⟨hx, hd'⟩ := drop_cons hd
      refine wpAny_pyNext_dict_item hit (hb hver) hx fun key h' hkey hit' hs => ⟨key, rfl, fun E' => ?_⟩
      obtain ⟨o, ho, hc, hdt⟩ := id hit'
      obtain ⟨R', S⟩ := iter_put R hI hI0 nI (fun b o n e => (hs.2 b n).trans e) ⟨o, ho⟩
      refine letOwned_no (s := { s with heap := h' }) ho hc hdt rfl ?_
      have hks : ∃ tk, key = .str p.1 tk := by
        cases key <;> simp [PySem.strKind, Value.isStrOf] at hkey
        exact ⟨_, by rw [hkey]⟩
      obtain ⟨tk, rfl⟩ := hks
      refine q h' s.toks _ S R' ?_ (.str _ _)
      unfold ItOk
      rw [hk]
      have haI : a ≠ I := fun e => hI (e ▸ List.mem_of_getElem? ea)
      refine ⟨a, c, ea, ec, hv, .inr ⟨kvs, j + 1, ep, hit', by rw [hd'], fun q => ?_⟩⟩
      obtain ⟨od, es, hod, rd⟩ := hb q
      exact ⟨od, es, (hs.2 _ haI).trans hod, rd⟩
  | items i =>
    rw [hk] at k hw
    obtain ⟨a, c, l, es, j, ep, ok, ov, ea, ec, hv, hit, e, r1, r2, hb⟩ := k
    have hver := watch_ver (it := it) hw ec
    rw [hr] at e
    have hd : ∃ p r, es.drop j = p :: r ∧ v = .tup [p.1, p.2] ∧ vs = r.map (fun e : AV × AV => AV.tup [e.1, e.2]) := by
      generalize es.drop j = l at e
      cases l with
      | nil => simp at e
      | cons p r => simp only [List.map_cons, List.cons.injEq] at e; exact ⟨p, r, rfl, e.1, e.2⟩
    obtain ⟨p, r, hd, rfl, rfl⟩ := hd
    obtain ⟨hx, hd'⟩ := drop_cons hd
    obtain ⟨k1, hk1, rk⟩ := r1.nth (n := j) (x := p.1) (by rw [nth_eq, List.getElem?_map, hx]; rfl)
    obtain ⟨v1, hv1, rv⟩ := r2.nth (n := j) (x := p.2) (by rw [nth_eq, List.getElem?_map, hx]; rfl)
    have hlx : l[j]? = some (k1, v1) := by
      rw [List.getElem?_map] at hk1 hv1
      cases q : l[j]? with
      | none => rw [q] at hk1; cases hk1
      | some y =>
        rw [q] at hk1 hv1
        simp only [Option.map_some, Option.some.injEq] at hk1 hv1
        rw [← hk1, ← hv1]
    have ht : ∃ es' x p', t = .Tuple es' x p' := by
      unfold ready at rd
      split at rd
      · rename_i ho
        unfold ownOk at ho
        rw [hk] at ho
        cases t <;> first | exact ⟨_, _, _, rfl⟩ | (simp at ho)
      · cases rd
    obtain ⟨es', x', p', rfl⟩ := ht
    refine rawNext hit (hb hver) hlx fun h1 hit1 htup k1' => ⟨_, rfl, fun E' => ?_⟩
    refine wpAny_letOwnedTupleGo_items (s := { s with heap := h1 }) hit1 fun h2 hit2 hs2 => ?_
    have kk : ∀ b o, b ≠ I → s.heap.get? b = some o → h2.get? b = some o := fun b o n e => (hs2.2 b n).trans (k1' b o n e)
    obtain ⟨R', S⟩ := iter_put R hI hI0 nI kk ⟨_, hit2⟩
    have haI : a ≠ I := fun e => hI (e ▸ List.mem_of_getElem? ea)
    have hsI : s.heap.objs.size ≠ I := fun e => by
      obtain ⟨o, ho, _⟩ := nI
      exact absurd (Heap.lt_size ho) (e ▸ Nat.lt_irrefl _)
    have htup2 : h2.get? s.heap.objs.size = some { cls := .type "tuple", data := .seq #[k1, v1] } := (hs2.2 _ hsI).trans htup
    refine q h2 s.toks _ S R' ?_ (.tup (vs := #[k1, v1]) ⟨_, htup2, rfl, 0, rfl⟩ (.cons (RV.stp S R nii rk) (.cons (RV.stp S R nii rv) .nil)))
    unfold ItOk
    rw [hk]
    refine ⟨a, c, l, es, j + 1, ep, k1, v1, ea, ec, hv, hit2, by rw [hd'], RVs.stp S R nii r1, RVs.stp S R nii r2, fun q => ?_⟩
    obtain ⟨od, ds, hod, rd⟩ := hb q
    exact ⟨od, ds, kk a od haI hod, rd⟩
  | _ => rw [hk] at k; exact k.elim
end
end Mine
end
section
open PySem PySem.W PySem.SeqAt PyProof.Rows
set_option maxRecDepth 100000
set_option linter.unusedVariables false
namespace Mine
theorem entry_itemiter_iter : entryFor table "dict_itemiterator.__iter__" = some Builtin.«dict_keyiterator.__iter__» :=
  entryFor_alias (id' := "dict_keyiterator.__iter__") (by kernel_rfl) (by decide +kernel) (by decide +kernel) (by kernel_rfl)

section
variable {prog : Program} {w : World} {h₀ h h' : Heap} {W W' : List Addr} {σ σ' : Sto} {s : Shared} {A : Around} {F : Addr → Prop} {it : It} {I : Addr} {env : Env} {sc : List (Str × NameKind)} {ρ : Rho}

theorem it_self (k : ItOk prog w h₀ it I s.heap W σ) {E Q : Value → Shared → Prop} (q : Q (.ref I) s) : wpAny (model prog w) A (pyIter (.ref I)) Q E s := by
  unfold ItOk at k
  split at k
  · obtain ⟨t, vs, j, hit, _⟩ := k
    exact wpAny_pyIter_tupleiter hit q
  · obtain ⟨k, l, hit, _⟩ := k
    exact wpAny_pyIter_rangeiter hit q
  · obtain ⟨a, c, _, _, _, k⟩ := k
    rcases k with ⟨xs, j, hit, _⟩ | ⟨kvs, j, ep, hit, _⟩
    · exact wpAny_pyIter_listiter hit q
    · exact wpAny_pyIter_keyiter hit q
  · obtain ⟨a, c, l, es, j, ep, ok, ov, _, _, _, hit, _⟩ := k
    have hT : s.TypeIs (.ref I) "dict_itemiterator" := ⟨_, hit, rfl⟩
    refine wpAny_pyIter_slot hT PySem.F.slot_dict_itemiterator_iter (wpAny_call_entry PySem.F.slot_dict_itemiterator_iter hT entry_itemiter_iter ?_ (PySem.F.args_dict_itemiterator_iter_1 _))
    show wpAny _ _ (ret (.ref I)) _ _ s
    exact wpAny_pure ⟨_, rfl, "dict_itemiterator", _, hT, PySem.F.slot_dict_itemiterator_next.lookup, q⟩
  · exact k.elim

open Classical in
theorem DD.raw {a : Addr} {es : List (AV × AV)} (r : DD prog w h₀ h W es a) : ∃ l ep, RawD h a l ep ∧ RVs h₀ h W (es.map (·.1)) (l.map (·.1)) ∧ RVs h₀ h W (es.map (·.2)) (l.map (·.2)) := by
  obtain ⟨xs, ⟨o, ds, ep, ho, hc, hd, he, his, hn⟩, hk, rs⟩ := r
  refine ⟨xs.map (fun x => (.ref x.2.1, x.2.2)), ep, ⟨o, ds, ho, hc.1, hd, ?_⟩, ?_, ?_⟩
  · rw [he, List.map_map]; rfl
  · rw [hk, List.map_map]
    have go : ∀ (ys : List (AV × Addr × Value)), (∀ x ∈ ys, (datKind prog w).is h x.1 x.2.1) → RVs h₀ h W (ys.map (·.1)) (ys.map ((fun x => x.1) ∘ fun x => (Value.ref x.2.1, x.2.2))) := by
      intro ys
      induction ys with
      | nil => exact fun _ => .nil
      | cons y ys ih => exact fun hy => .cons (RV.dat 8 (hy y (.head _)).2.1 (hy y (.head _)).2.2) (ih fun x m => hy x (.tail _ m))
    exact go xs his
  · rw [List.map_map]; exact rs

theorem iter_ok (b0 : Bs0 h₀) {x : AV} {val : Value} (e : iter σ x = some it) (R : SR prog w h₀ s.heap W σ) (rx : RV h₀ s.heap W x val) (E Q : Value → Shared → Prop)
    (q : ∀ h' I, s.heap.get? I = none → SR prog w h₀ h' W σ → Stp NoF s.heap W σ h' W σ → ItOk prog w h₀ it I h' W σ → Q (.ref I) { s with heap := h' }) : wpAny (model prog w) A (pyIter val) Q E s := by
  have k : ∀ (ob : Obj) b o, s.heap.get? b = some o → (s.heap.push ob).get? b = some o := fun ob b o e => Heap.get?_push_of_some _ e
  unfold iter at e
  split at e
  · cases e
    obtain ⟨t, vs, rfl, ht, rs⟩ := rx.tup_inv
    refine wpAny_pyIter_tuple ht ?_
    obtain ⟨R', S⟩ := R.grow0 (k { cls := .type "tuple_iterator", data := .fields #[.ref t, .int 0 0] })
    refine q _ _ (top_none _) R' S ?_
    exact ⟨t, vs, 0, ⟨_, Heap.get?_push_size _ rfl, rfl, rfl⟩, ht.push _, by simpa using RVs.stp S R (niNo _) rs⟩
  · split at e <;> (try (cases e; done))
    rename_i n _ hn
    cases e
    cases rx with
    | rng hr =>
    have hn' : n ≤ 1000 := Nat.le_of_ble_eq_true hn
    have hsz : Builtin.Range.rangeSize 0 n 1 = n := by
      rw [rangeSize_one]; split <;> omega
    refine wpAny_pyIter_range hr (small_one (by omega) (by omega) (by omega) (by omega)) ?_
    rw [hsz]
    obtain ⟨R', S⟩ := R.grow0 (k { cls := .type "range_iterator", data := .fields #[rawInt 0, rawInt n, rawInt 1] })
    refine q _ _ (top_none _) R' S ?_
    exact ⟨0, n, Heap.get?_push_size _ rfl, rfl⟩
  · rename_i i
    obtain ⟨a, rfl, ea⟩ := rx.ref_inv
    split at e <;> (try (cases e; done))
    · rename_i xs ver hc
      cases e
      have rc := R.cell i a _ ea hc
      obtain ⟨vs, hl, rs⟩ := rc
      refine wpAny_pyIter_list hl.isList ?_
      obtain ⟨R', S⟩ := R.grow0 (k { cls := .type "list_iterator", data := .fields #[.ref a, .int 0 0] })
      refine q _ _ (top_none _) R' S ?_
      exact ⟨a, _, ea, hc, Nat.le_refl _, .inl ⟨xs, 0, ⟨_, Heap.get?_push_size _ rfl, rfl, rfl⟩, by simp, fun _ => rfl⟩⟩
    · rename_i es ver hc
      split at e <;> (try (cases e; done))
      rename_i hk
      cases e
      have rc := R.cell i a _ ea hc
      obtain ⟨kvs, hm, hks, rvs⟩ := DS.of hk rc
      obtain ⟨ep, hat⟩ := hm.dictAt
      refine wpAny_pyIter_dict (R.noSys b0 ea) hat ?_
      obtain ⟨R', S⟩ := R.grow0 (k { cls := .type "dict_keyiterator", data := .fields #[.ref a, .int 0 0, .int kvs.length 0, .int ep 0] })
      refine q _ _ (top_none _) R' S ?_
      exact ⟨a, _, ea, hc, Nat.le_refl _, .inr ⟨kvs, 0, ep, ⟨_, Heap.get?_push_size _ rfl, rfl, rfl⟩, by simpa using hks, fun _ => hat.push _⟩⟩
  · rename_i i
    split at e <;> (try (cases e; done))
    rename_i es ver hc
    split at e <;> (try (cases e; done))
    rename_i hk
    cases e
    cases rx with
    | items ea hv =>
    rename_i v d
    have rc := R.cell i d _ ea hc
    obtain ⟨l, ep, hraw, r1, r2⟩ := DD.raw (DD.of hk rc)
    refine rawIter hv hraw ?_
    obtain ⟨R', S⟩ := R.grow0 (k { cls := .type "dict_itemiterator", data := .fields #[.none, .bool false, .ref d, .int 0 0, .int l.length 0, .int ep 0, .none, .none] })
    refine q _ _ (top_none _) R' S ?_
    obtain ⟨o, ds, ho, rd⟩ := hraw
    exact ⟨d, _, l, es, 0, ep, .none, .none, ea, hc, Nat.le_refl _, Heap.get?_push_size _ rfl, by simp, RVs.stp S R (niNo _) r1, RVs.stp S R (niNo _) r2, fun _ => ⟨o, ds, Heap.get?_push_of_some _ ho, rd⟩⟩
  · cases e

theorem FrOk.keepP {P : Addr → Prop} (f : FrOk h₀ env sc ρ h W) (k : ∀ b o, ¬ P b → h.get? b = some o → h'.get? b = some o) (n : NI P h) (hW : ∀ (i : Nat) (a : Addr), W[i]? = some a → W'[i]? = some a) (fP : ∀ b, frF env b → ¬ P b) (fW : ∀ b, frF env b → b ∉ W') :
    FrOk h₀ env sc ρ h' W' := by
  have cell : ∀ {x : Str} {c : Addr} {v : Option Value}, env.cells.lookup x = some c → h.IsCell c v → h'.IsCell c v := fun {x c v} m q => by
    obtain ⟨o, ho, hd⟩ := q
    exact ⟨o, k c o (fP c (.inr ⟨x, m⟩)) ho, hd⟩
  refine ⟨f.kind, f.glob, f.bi, ?_, fun x v e kk => ?_, f.gi, f.lo, fun x e => ?_, fun x e => ?_, f.ap, fun x c m => ?_, fW _ (.inl rfl), f.l0⟩
  · obtain ⟨m, ⟨o, es, ep, ho, q⟩, hm⟩ := f.ns
    refine ⟨m, ⟨o, es, ep, k _ o (fP _ (.inl rfl)) ho, q⟩, fun x v e kk => ?_⟩
    obtain ⟨val, h1, h2⟩ := hm x v e kk
    exact ⟨val, h1, RV.keep k n hW h2⟩
  · obtain ⟨h1, c, val, h2, h3, h4⟩ := f.cell x v e kk
    exact ⟨h1, c, val, h2, cell h2 h3, RV.keep k n hW h4⟩
  · obtain ⟨h1, c, v, h2, h3⟩ := f.ce x e
    exact ⟨h1, c, v, h2, cell h2 h3⟩
  · obtain ⟨h1, c, v, h2, h3⟩ := f.fr x e
    exact ⟨h1, c, v, h2, cell h2 h3⟩
  · obtain ⟨h1, h2, h3, v, h4⟩ := f.cl x c m
    exact ⟨h1, fW c (.inr ⟨x, m⟩), h3, v, cell m h4⟩

noncomputable def LoopEnd (F : Addr → Prop) (I : Addr) (h : Heap) (W : List Addr) (σ : Sto) (h' : Heap) (W' : List Addr) (σ' : Sto) : Prop :=
  ∃ h2, Stp (fun b => F b ∨ b = I) h W σ h2 W' σ' ∧ ∀ b o, b ≠ I → h2.get? b = some o → h'.get? b = some o

theorem LoopEnd.now (S : Stp (fun b => F b ∨ b = I) h W σ h' W' σ') : LoopEnd F I h W σ h' W' σ' := ⟨h', S, fun b o _ e => e⟩
theorem LoopEnd.fin (k : ∀ b o, b ≠ I → h.get? b = some o → h'.get? b = some o) : LoopEnd F I h W σ h' W σ := ⟨h, Stp.refl _ _ _ _, k⟩
theorem LoopEnd.step {h1 : Heap} {W1 : List Addr} {σ1 : Sto} (S : Stp (fun b => F b ∨ b = I) h W σ h1 W1 σ1) (L : LoopEnd F I h1 W1 σ1 h' W' σ') : LoopEnd F I h W σ h' W' σ' := by
  obtain ⟨h2, S2, k⟩ := L
  exact ⟨h2, S.trans S2, k⟩
theorem LoopEnd.out {hz : Heap} {Wz : List Addr} {σz : Sto} (R0 : SR prog w h₀ hz Wz σz) (S0 : Stp F hz Wz σz h W σ) (hI : hz.get? I = none) (L : LoopEnd F I h W σ h' W' σ') : Stp F hz Wz σz h' W' σ' := by
  obtain ⟨h2, S, k⟩ := L
  have ne : ∀ b o, hz.get? b = some o → b ≠ I := fun b o e q => by rw [q, hI] at e; cases e
  refine ⟨?_, fun b o m f e => ?_, fun b o e => ?_, fun i c e => ?_⟩
  · obtain ⟨X, rfl, hX⟩ := S0.ext
    obtain ⟨Y, rfl, hY⟩ := S.ext
    refine ⟨X ++ Y, by simp, fun a m => ?_⟩
    rcases List.mem_append.mp m with m | m
    · exact hX a m
    · exact S0.fresh (hY a m)
  · exact k b o (ne b o e) (S.keep b o (S0.newer e m) (fun q => q.elim f (ne b o e)) (S0.keep b o m f e))
  · obtain ⟨o1, e1⟩ := S0.live b o e
    obtain ⟨o2, e2⟩ := S.live b o1 e1
    exact ⟨o2, k b o2 (ne b o e) e2⟩
  · obtain ⟨c', e', l', q'⟩ := S0.ver i c e
    obtain ⟨c'', e'', l'', q''⟩ := S.ver i c' e'
    refine ⟨c'', e'', Nat.le_trans l' l'', fun q => ?_⟩
    have h1 : c.ver = c'.ver := by omega
    have h2' : c'.ver = c''.ver := by omega
    refine ⟨(q'' h2').1.trans (q' h1).1, fun a ea => ?_⟩
    have g2 : h2.get? a = hz.get? a := ((q'' h2').2 a (S0.mem ea)).trans ((q' h1).2 a ea)
    obtain ⟨o, eo, _⟩ := R0.obj (List.mem_of_getElem? ea)
    rw [eo] at g2 ⊢
    exact k a o (ne a o eo) g2

theorem SR.keepI (R : SR prog w h₀ h W σ) (nI : NI (fun b => b = I) h) (k : ∀ b o, b ≠ I → h.get? b = some o → h'.get? b = some o) (hI : I ∉ W) (hI0 : h₀.get? I = none) : SR prog w h₀ h' W σ := by
  have same : ∀ a ∈ W, h'.get? a = h.get? a := fun a m => by
    obtain ⟨o, e, _⟩ := R.obj m
    rw [e]; exact k a o (fun q => hI (q ▸ m)) e
  refine ⟨R.n, R.cs, fun i a c e ec => RC.keep (P := fun b => b = I) k nI (fun _ _ e => e) (same a (List.mem_of_getElem? e)) (R.cell i a c e ec), R.nd, R.ab, fun b o e => k b o (fun q => ?_) (R.old b o e)⟩
  rw [q, hI0] at e; cases e
end

section
variable (prog : Program) (w : World) (h₀ : Heap)
noncomputable def FoS (fo : Cx → Rho → Sto → Expr → It → List Stmt → Option (Fl × Rho × Sto)) : Prop :=
  ∀ c ρ σ t it b f ρ' σ', fo c ρ σ t it b = some (f, ρ', σ') → ∀ A env s W I, AOk A c.d → FrOk h₀ env c.sc ρ s.heap W → SR prog w h₀ s.heap W σ → ItOk prog w h₀ it I s.heap W σ → I ∉ W → ¬ frF env I → h₀.get? I = none →
    ∀ R : Result → Shared → Prop, (∀ h' tk W' fl, LoopEnd (frF env) I s.heap W σ h' W' σ' → SR prog w h₀ h' W' σ' → FrOk h₀ env c.sc ρ' h' W' → FlV h₀ h' W' f fl → R (.ok fl) { s with heap := h', toks := tk }) →
      codeAny (model prog w) A (.forLoop t (.ref I) b [] env) R s
noncomputable def WhS (wh : Cx → Rho → Sto → Expr → List Stmt → Option (Fl × Rho × Sto)) : Prop :=
  ∀ c ρ σ t b f ρ' σ', wh c ρ σ t b = some (f, ρ', σ') → ∀ A env s W, AOk A c.d → FrOk h₀ env c.sc ρ s.heap W → SR prog w h₀ s.heap W σ →
    ∀ R : Result → Shared → Prop, (∀ h' tk W' fl, Stp (frF env) s.heap W σ h' W' σ' → SR prog w h₀ h' W' σ' → FrOk h₀ env c.sc ρ' h' W' → FlV h₀ h' W' f fl → R (.ok fl) { s with heap := h', toks := tk }) →
      codeAny (model prog w) A (.whileLoop t b [] env) R s
noncomputable def CoS (co : Cx → Rho → Sto → Expr → List Comprehension → Nat → It → Nat → Option (Rho × Sto)) : Prop :=
  ∀ c ρ σ e gens k it acc ρ' σ', co c ρ σ e gens k it acc = some (ρ', σ') → (∃ elt scope pos, e = .ListComp elt gens scope pos) → ∀ A env s W I D, AOk A c.d → FrOk h₀ env c.sc ρ s.heap W → (∀ x, kindIn c.sc x ≠ some .cell) → SR prog w h₀ s.heap W σ →
    ItOk prog w h₀ it I s.heap W σ → I ∉ W → ¬ frF env I → h₀.get? I = none → W[acc]? = some D →
    ∀ R : Result → Shared → Prop, (∀ h' tk W', LoopEnd (fun b => b = env.locals) I s.heap W σ h' W' σ' → SR prog w h₀ h' W' σ' → FrOk h₀ env c.sc ρ' h' W' → R (.ok .next) { s with heap := h', toks := tk }) →
      codeAny (model prog w) A (.compLoop e k (.ref I) (.ref D) env) R s
structure RecS (R : Rec) : Prop where
  ev : EvS prog w h₀ R.ev
  tr : TrS prog w h₀ R.tr
  ex : ExS prog w h₀ R.ex
  wh : WhS prog w h₀ R.wh
  fo : FoS prog w h₀ R.fo
  co : CoS prog w h₀ R.co
end
end Mine
end
section
open PySem PySem.W PySem.SeqAt PyProof.Rows
set_option maxRecDepth 100000
set_option linter.unusedVariables false
namespace Mine

section
variable {prog : Program} {w : World} {h₀ h h' : Heap} {W W' : List Addr} {σ σ' : Sto} {s : Shared} {A : Around} {F : Addr → Prop} {it : It} {I : Addr} {env : Env} {sc : List (Str × NameKind)} {ρ : Rho} {R : Rec}

theorem wh_step (K : RecS prog w h₀ R) : WhS prog w h₀ (whStep R) := by
  intro c ρ σ t b f ρ' σ' e A env s W hA fr S0 Rr hR
  unfold whStep at e
  obtain ⟨⟨p, σ1⟩, e1, e⟩ := Option.bind_eq_some_iff.mp e
  refine codeAny_of_tree ?_
  show wpAny (model prog w) A ((whileTurn t b [] env).onRaise fun x => do noteFrame x env; theTreesLotGoes x) _ _ s
  refine wpAny_noted ?_
  unfold whileTurn
  refine wpAny_bind (K.tr c ρ σ t p σ1 e1 A env s W hA fr S0 _ _ fun h1 tk1 W1 S1 R1 => ?_)
  cases p with
  | false =>
    cases e
    simp only [Bool.false_eq_true, if_false]
    exact wpAny_bind (wpAny_execs_nil (wpAny_pure (hR h1 tk1 W1 .next S1.of0 R1 (fr.stp S0 S1) trivial)))
  | true =>
    simp only at e
    obtain ⟨⟨fl, ρ1, σ2⟩, e2, e⟩ := Option.bind_eq_some_iff.mp e
    simp only [if_true]
    refine wpAny_bind (K.ex c ρ σ1 b fl ρ1 σ2 e2 A env { s with heap := h1, toks := tk1 } W1 hA (fr.stp S0 S1) R1 _ _ fun h2 tk2 W2 flv S2 R2 f2 hfl => ?_)
    have S12 := S1.of0.trans S2
    cases fl with
    | next =>
      cases flv with
      | next =>
        refine wpAny_pure ⟨rfl, ?_⟩
        exact K.wh c ρ1 σ2 t b f ρ' σ' e A env { s with heap := h2, toks := tk2 } W2 hA f2 R2 _ fun h3 tk3 W3 flv S3 R3 f3 hf => hR h3 tk3 W3 flv (S12.trans S3) R3 f3 hf
      | _ => exact hfl.elim
    | ret v =>
      cases e
      cases flv with
      | ret val => exact wpAny_pure (hR h2 tk2 W2 (.ret val) S12 R2 f2 hfl)
      | _ => exact hfl.elim

theorem fo_step (K : RecS prog w h₀ R) : FoS prog w h₀ (foStep R) := by
  intro c ρ σ t it b f ρ' σ' e A env s W I hA fr S0 k hI hIf hI0 Rr hR
  unfold foStep at e
  split at e <;> (try (cases e; done))
  rename_i rd
  refine codeAny_of_tree ?_
  show wpAny (model prog w) A ((forTurn t (.ref I) b [] env).onRaise fun x => do noteFrame x env; theTreesLotGoes x) _ _ s
  refine wpAny_noted ?_
  unfold forTurn
  refine wpAny_bind (wpAny_standAt (wpAny_bind (wpAny_onRaise ?_)))
  have nI := k.obj
  have nii := ni_I nI
  split at e
  · rename_i hr
    cases e
    refine it_end hA.hd S0 k rd hr _ _ fun h' kk => ?_
    refine wpAny_pure ⟨rfl, codeAny_block (wpAny_execs_nil ?_)⟩
    have R' := S0.keepI nii kk hI hI0
    have f' := fr.keepP (W' := W) (P := fun b => b = I) kk nii (fun _ _ e => e) (fun b p q => hIf (q ▸ p)) (fun b p m => fr.fW b m p)
    exact hR h' s.toks W .next (LoopEnd.fin kk) R' f' trivial
  · rename_i v vs hr
    obtain ⟨ρ1, e1, e⟩ := Option.bind_eq_some_iff.mp e
    obtain ⟨⟨fl, ρ2, σ2⟩, e2, e⟩ := Option.bind_eq_some_iff.mp e
    refine wpAny_mono (it_next S0 k hI hI0 rd hr _ (fun val s' => wpAny (model prog w) A (do
        assign t env val
        match ← execs b env with
        | .next | .cont => again (.forLoop t (.ref I) b [] env)
        | .brk => pure (.done .next)
        | .ret v => pure (.done (.ret v))) (fun fin s' => match fin with | .done f => Rr (.ok f) s' | .again c' => c'.quiet = true ∧ codeAny (model prog w) A c' Rr s') (notedBy (model prog w) A env fun e s' => Rr (.error e) s') s') fun h1 tk1 val S1 R1 k1 rv => ?_) (fun r s' hrr => ?_) fun _ _ x => x
    · have f1 := fr.keepP (W' := W) (P := fun b => b = I) (fun b o n e => by
        by_cases m : b ∈ W
        · obtain ⟨c', e', _⟩ := R1.obj m
          obtain ⟨i, ei⟩ := List.mem_iff_getElem?.mp m
          obtain ⟨cc, ec⟩ := S0.get ei
          obtain ⟨c1, e1, _, q1⟩ := S1.ver i cc ec
          have : c1 = cc := by rw [ec] at e1; cases e1; rfl
          exact ((q1 (by rw [this])).2 b ei).trans e
        · exact S1.keep b o m n e) nii (fun _ _ e => e) (fun b p q => hIf (q ▸ p)) (fun b p m => fr.fW b m p)
      refine wpAny_bind (letTo_ok (s := { s with heap := h1, toks := tk1 }) hA.hd e1 R1 f1 rv _ _ fun h2 tk2 S2 R2 f2 => ?_)
      have nI1 := k1.obj
      have k2 := k1.stp S2 R1 f1.niC hI (fun p => hIf (frC_sub p))
      refine wpAny_bind (K.ex c ρ1 σ b fl ρ2 σ2 e2 A env { s with heap := h2, toks := tk2 } W hA f2 R2 _ _ fun h3 tk3 W3 flv S3 R3 f3 hfl => ?_)
      have k3 := k2.stp S3 R2 f2.niF hI hIf
      have hI3 : I ∉ W3 := by
        obtain ⟨o, ho, _⟩ := k2.obj
        exact S3.newer ho hI
      have S13 : Stp (fun b => frF env b ∨ b = I) s.heap W σ h3 W3 σ2 := ((S1.weak fun b p => .inr p).trans (S2.weak fun b p => .inl (frC_sub p))).trans (S3.weak fun b p => .inl p)
      cases fl with
      | next =>
        cases flv with
        | next =>
          refine wpAny_pure ⟨rfl, ?_⟩
          exact K.fo c ρ2 σ2 t _ b f ρ' σ' e A env { s with heap := h3, toks := tk3 } W3 I hA f3 R3 k3 hI3 hIf hI0 _ fun h4 tk4 W4 flv L4 R4 f4 hf => hR h4 tk4 W4 flv (LoopEnd.step S13 L4) R4 f4 hf
        | _ => exact hfl.elim
      | ret v =>
        cases e
        cases flv with
        | ret val => exact wpAny_pure (hR h3 tk3 W3 (.ret val) (LoopEnd.now S13) R3 f3 hfl)
        | _ => exact hfl.elim
    · obtain ⟨val, rfl, hl⟩ := hrr
      exact wpAny_bind (wpAny_mono (hl _) (fun _ _ x => x) fun _ _ x => x)
end
end Mine
end
section
open PySem PySem.W PySem.SeqAt PyProof.Rows
set_option maxRecDepth 100000
set_option linter.unusedVariables false
namespace Mine

section
variable {prog : Program} {w : World} {h₀ h h' : Heap} {W W' : List Addr} {σ σ' : Sto} {s : Shared} {A : Around} {F : Addr → Prop} {it : It} {I : Addr} {env : Env} {sc : List (Str × NameKind)} {c : Cx} {ρ : Rho} {R : Rec}

noncomputable def testsT (env : Env) (c : Expr) (r : Bool) : Sem (ForInStep Bool) := if r = true then do let ok ← isTrue c env (eval c env); pure (ForInStep.yield ok) else pure (ForInStep.yield r)
theorem tests_no : ∀ ts : List Expr, forIn ts false (testsT env) = (pure false : Sem Bool)
  | [] => by rw [List.forIn_nil]
  | t :: ts => by
    rw [List.forIn_cons]
    have ht : testsT env t false = pure (ForInStep.yield false) := rfl
    rw [ht, pure_bind]
    exact tests_no ts
theorem tests_ok (iht : TrS prog w h₀ R.tr) (hA : AOk A c.d) : ∀ {ts : List Expr} {σ σ' : Sto} {s : Shared} {W : List Addr} {b : Bool}, tests R c ρ σ ts = some (b, σ') → FrOk h₀ env c.sc ρ s.heap W → SR prog w h₀ s.heap W σ →
    GivesB prog w h₀ NoF W σ s A (forIn ts true (testsT env)) b σ'
  | [], σ, σ', s, W, b, e, f, S0 => by
    cases e
    intro E Q q
    rw [List.forIn_nil]
    exact wpAny_pure (q s.heap s.toks W (Stp.refl _ _ _ _) S0)
  | t :: ts, σ, σ', s, W, b, e, f, S0 => by
    unfold tests at e
    obtain ⟨⟨r, σ1⟩, e1, e⟩ := Option.bind_eq_some_iff.mp e
    intro E Q q
    rw [List.forIn_cons]
    have ht : testsT env t true = (do let ok ← isTrue t env (eval t env); pure (ForInStep.yield ok)) := rfl
    rw [ht]
    refine wpAny_bind (wpAny_bind (iht c ρ σ t r σ1 e1 A env s W hA f S0 _ _ fun h1 tk1 W1 S1 R1 => wpAny_pure ?_))
    cases r with
    | true =>
      exact tests_ok iht hA (s := { s with heap := h1, toks := tk1 }) e (f.stp S0 S1) R1 _ _ fun h2 tk2 W2 S2 R2 => q h2 tk2 W2 (S1.trans S2) R2
    | false =>
      cases e
      simp only
      rw [tests_no]
      exact wpAny_pure (q h1 tk1 W1 S1 R1)

theorem noSet_fold {e : Expr} (h : noSet e = true) (x : Value) : foldedSetIterable e env x = pure x := by
  cases e <;> first | rfl | (simp [noSet] at h)

theorem start_ok {elt : Expr} {gens : List Comprehension} {scope : Scope} {pos : Pos} {k : Nat} {itv acc : Value} {Rr : Result → Shared → Prop} {g : Comprehension} (hg : gens[k]? = some g) (ha : g.is_async = 0)
    (h1 : codeAny (model prog w) A (.compLoop (.ListComp elt gens scope pos) k itv acc env) Rr s)
    (h2 : ∀ E, wpAny (model prog w) A (pyIter itv) (fun it' s' => codeAny (model prog w) A (.compLoop (.ListComp elt gens scope pos) k it' acc env) Rr s') E s) :
    codeAny (model prog w) A (.compStart (.ListComp elt gens scope pos) k itv acc env) Rr s := by
  refine codeAny_of_tree ?_
  show wpAny _ _ ((compStart (.ListComp elt gens scope pos) k itv acc env).onRaise (fun x => do noteFrame x env; standAt theWindowsPlace)) _ _ s
  refine wpAny_notedAt ?_
  unfold compStart
  have hcl : ((clausesOf (.ListComp elt gens scope pos))[k]?).elim false (fun x => x.is_async != 0) = false := by
    show (gens[k]?).elim false _ = false
    rw [hg]
    simp [ha]
  simp only [hcl, Bool.false_eq_true, if_false]
  show wpAny _ _ (ask >>= _) _ _ s
  refine wpAny_bind (wpAny_askSetting (wpAny_ite ?_))
  split
  · exact wpAny_pure (And.intro rfl h1)
  · refine wpAny_bind (wpAny_rule ?_)
    have hcl2 : (clausesOf (.ListComp elt gens scope pos))[k]? = some g := hg
    simp only [hcl2]
    exact wpAny_bind (wpAny_standAt (wpAny_bind (wpAny_mono (h2 _) (fun it' s' h' => wpAny_pure (And.intro rfl h')) fun _ _ x => x)))

theorem it_turn {t : Expr} {v : AV} {vs : List AV} (kont : Value → Sem Fin) {Q : Fin → Shared → Prop} {E : Value → Shared → Prop} (S0 : SR prog w h₀ s.heap W σ) (k : ItOk prog w h₀ it I s.heap W σ) (hI : I ∉ W) (hI0 : h₀.get? I = none) (rd : ready σ it t = true) (hr : it.rest = v :: vs)
    (q : ∀ h' tk val, Stp (fun b => b = I) s.heap W σ h' W σ → SR prog w h₀ h' W σ → ItOk prog w h₀ ⟨it.kind, it.ver, vs⟩ I h' W σ → RV h₀ h' W v val → wpAny (model prog w) A (kont val) Q E { s with heap := h', toks := tk }) :
    wpAny (model prog w) A (pyNext (.ref I) >>= fun r => match r with | none => pure (.done .next) | some v => letOwnedTupleGo t (.ref I) v >>= fun _ => kont v) Q E s := by
  refine wpAny_bind (wpAny_mono (it_next S0 k hI hI0 rd hr E (fun val s' => wpAny (model prog w) A (kont val) Q E s') q) (fun r s' hrr => ?_) fun _ _ x => x)
  obtain ⟨val, rfl, hl⟩ := hrr
  exact wpAny_bind (wpAny_mono (hl _) (fun _ _ x => x) fun _ _ x => x)

theorem co_step (b0 : Bs0 h₀) (K : RecS prog w h₀ R) : CoS prog w h₀ (coStep R) := by
  intro c ρ σ e gens k it acc ρ' σ' he hsh A env s W I D hA fr hnc S0 ki hI hIf hI0 hD Rr hR
  obtain ⟨elt, scope, pos, rfl⟩ := hsh
  unfold coStep at he
  split at he <;> (try (cases he; done))
  rename_i g hg
  rw [nth_eq] at hg
  split at he <;> (try (cases he; done))
  rename_i hga
  have hga' : g.is_async = 0 := (Z.eqB_iff _ _).mp hga
  split at he <;> (try (cases he; done))
  rename_i rd
  refine codeAny_of_tree ?_
  show wpAny (model prog w) A ((compTurn (.ListComp elt gens scope pos) k (.ref I) (.ref D) env).onRaise fun x => do noteFrame x env; theTreesLotGoes x) _ _ s
  refine wpAny_noted ?_
  unfold compTurn
  simp only [hg, hga', bne_self_eq_false, Bool.false_eq_true, if_false]
  refine wpAny_bind (wpAny_standAt ?_)
  have nI := ki.obj
  have nii := ni_I nI
  have cF : ∀ b, frC env c.sc b → b = env.locals := fun b p => by
    rcases p with p | ⟨x, hx, _⟩
    · exact p
    · exact absurd hx (hnc x)
  split at he
  · rename_i hr
    cases he
    refine wpAny_bind (it_end hA.hd S0 ki rd hr _ _ fun h' kk => ?_)
    refine wpAny_pure ?_
    have R' := S0.keepI nii kk hI hI0
    have f' := fr.keepP (W' := W) (P := fun b => b = I) kk nii (fun _ _ e => e) (fun b p q => hIf (q ▸ p)) (fun b p m => fr.fW b m p)
    exact hR h' s.toks W (LoopEnd.fin kk) R' f'
  · rename_i v vs hr
    obtain ⟨ρ1, e1, he⟩ := Option.bind_eq_some_iff.mp he
    obtain ⟨⟨ok, σ1⟩, e2, he⟩ := Option.bind_eq_some_iff.mp he
    refine it_turn _ S0 ki hI hI0 rd hr fun h1 tk1 val S1 R1 k1 rv => ?_
    have f1 := fr.keepP (W' := W) (P := fun b => b = I) (fun b o n e => by
      by_cases m : b ∈ W
      · obtain ⟨i, ei⟩ := List.mem_iff_getElem?.mp m
        obtain ⟨cc, ec⟩ := S0.get ei
        obtain ⟨c1, e1, _, q1⟩ := S1.ver i cc ec
        have : c1 = cc := by rw [ec] at e1; cases e1; rfl
        exact ((q1 (by rw [this])).2 b ei).trans e
      · exact S1.keep b o m n e) nii (fun _ _ e => e) (fun b p q => hIf (q ▸ p)) (fun b p m => fr.fW b m p)
    refine wpAny_bind (letTo_ok (s := { s with heap := h1, toks := tk1 }) hA.hd e1 R1 f1 rv _ _ fun h2 tk2 S2 R2 f2 => ?_)
    have k2 := k1.stp S2 R1 f1.niC hI (fun p => hIf (frC_sub p))
    have S2' : Stp (fun b => b = env.locals ∨ b = I) h1 W σ h2 W σ := S2.weak fun b p => .inl (cF b p)
    have S12 : Stp (fun b => b = env.locals ∨ b = I) s.heap W σ h2 W σ := (S1.weak fun b p => .inr p).trans S2'
    refine wpAny_bind (tests_ok K.tr hA (s := { s with heap := h2, toks := tk2 }) e2 f2 R2 _ _ fun h3 tk3 W3 S3 R3 => ?_)
    have f3 := f2.stp R2 S3
    have k3 := k2.stp S3 R2 (niNo _) hI (fun p => p)
    have hI3 : I ∉ W3 := by
      obtain ⟨o, ho, _⟩ := k2.obj
      exact S3.newer ho hI
    have S13 : Stp (fun b => b = env.locals ∨ b = I) s.heap W σ h3 W3 σ1 := S12.trans (S3.no _)
    have again : ∀ {h4 : Heap} {tk4 : Nat} {W4 : List Addr} {σ4 : Sto} {ρ4 : Rho}, R.co c ρ4 σ4 (.ListComp elt gens scope pos) gens k ⟨it.kind, it.ver, vs⟩ acc = some (ρ', σ') → Stp (fun b => b = env.locals ∨ b = I) s.heap W σ h4 W4 σ4 → SR prog w h₀ h4 W4 σ4 → FrOk h₀ env c.sc ρ4 h4 W4 →
        ItOk prog w h₀ ⟨it.kind, it.ver, vs⟩ I h4 W4 σ4 → I ∉ W4 → codeAny (model prog w) A (.compLoop (.ListComp elt gens scope pos) k (.ref I) (.ref D) env) Rr { s with heap := h4, toks := tk4 } := fun {h4 tk4 W4 σ4 ρ4} e4 S4 R4 f4 k4 hI4 =>
      K.co c ρ4 σ4 _ gens k _ acc ρ' σ' e4 ⟨elt, scope, pos, rfl⟩ A env { s with heap := h4, toks := tk4 } W4 I D hA f4 hnc R4 k4 hI4 hIf hI0 (S4.mem hD) _ fun h5 tk5 W5 L5 R5 f5 => hR h5 tk5 W5 (LoopEnd.step S4 L5) R5 f5
    cases ok with
    | false =>
      simp only [Bool.false_eq_true, if_false]
      exact wpAny_pure ⟨rfl, again he S13 R3 f3 k3 hI3⟩
    | true =>
      simp only [if_true]
      simp only at he
      rw [nth_eq] at he
      cases hg2 : gens[k + 1]? with
      | none =>
        rw [hg2] at he
        simp only at he
        obtain ⟨⟨x, σ2⟩, e3, he⟩ := Option.bind_eq_some_iff.mp he
        obtain ⟨⟨y, σ3⟩, e4, he⟩ := Option.bind_eq_some_iff.mp he
        refine wpAny_bind (wpAny_bind (K.ev c ρ1 σ1 elt x σ2 e3 A env { s with heap := h3, toks := tk3 } W3 hA f3 R3 _ _ fun h4 tk4 W4 vx S4 R4 rx => ?_))
        have f4 := f3.stp R3 S4
        have k4 := k3.stp S4 R3 (niNo _) hI3 (fun p => p)
        have hI4 : I ∉ W4 := by
          obtain ⟨o, ho, _⟩ := k3.obj
          exact S4.newer ho hI3
        have hD4 := S4.mem (S3.mem hD)
        have e4' : meCall σ2 acc .append [x] = some (y, σ3) := e4
        refine wpAny_bind (me_ok b0 (m := .append) hA.hd (by have := hA.un; omega) (s := { s with heap := h4, toks := tk4 }) e4' R4 hD4 (.cons rx .nil) _ _ fun h5 tk5 W5 vy S5 R5 ry => ?_)
        refine wpAny_pure (wpAny_pure ⟨rfl, ?_⟩)
        have hI5 : I ∉ W5 := by
          obtain ⟨o, ho, _⟩ := k4.obj
          exact S5.newer ho hI4
        exact again he ((S13.trans (S4.no _)).trans (S5.no _)) R5 (f4.stp R4 S5) (k4.stp S5 R4 (niNo _) hI4 (fun p => p)) hI5
      | some g' =>
        rw [hg2] at he
        simp only at he
        split at he <;> (try (cases he; done))
        rename_i hga2 hns
        have hga2' : g'.is_async = 0 := (Z.eqB_iff _ _).mp hga2
        obtain ⟨⟨x, σ2⟩, e3, he⟩ := Option.bind_eq_some_iff.mp he
        obtain ⟨it', e4, he⟩ := Option.bind_eq_some_iff.mp he
        obtain ⟨⟨ρ2, σ3⟩, e5, he⟩ := Option.bind_eq_some_iff.mp he
        simp only [hga2', bne_self_eq_false, Bool.false_eq_true, if_false]
        refine wpAny_bind (K.ev c ρ1 σ1 g'.iter x σ2 e3 A env { s with heap := h3, toks := tk3 } W3 hA f3 R3 _ _ fun h4 tk4 W4 vx S4 R4 rx => ?_)
        have f4 := f3.stp R3 S4
        have k4 := k3.stp S4 R3 (niNo _) hI3 (fun p => p)
        have hI4 : I ∉ W4 := by
          obtain ⟨o, ho, _⟩ := k3.obj
          exact S4.newer ho hI3
        have hD4 := S4.mem (S3.mem hD)
        refine wpAny_bind (wpAny_standAt (wpAny_bind (wpAny_of_eq (noSet_fold hns vx) (wpAny_bind (wpAny_holding ?_)))))
        refine iter_ok b0 (s := { s with heap := h4, toks := tk4 }) e4 R4 rx _ _ fun h5 J hJ R5 S5 kJ => ?_
        have f5 := f4.stp R4 S5
        have k5 := k4.stp S5 R4 (niNo _) hI4 (fun p => p)
        have hJW : J ∉ W4 := fun m => by
          obtain ⟨o, e, _⟩ := R4.obj m
          rw [hJ] at e; cases e
        have hJf : ¬ frF env J := fun p => by
          obtain ⟨o, e⟩ := f4.here p
          rw [hJ] at e; cases e
        have hJ0 : h₀.get? J = none := by
          cases q : h₀.get? J with
          | none => rfl
          | some o => rw [R4.old _ _ q] at hJ; cases hJ
        refine wpAny_bind (wpAny_runOwn ?_)
        have inner : ∀ Rr' : Result → Shared → Prop, (∀ h' tk W', LoopEnd (fun b => b = env.locals) J h5 W4 σ2 h' W' σ3 → SR prog w h₀ h' W' σ3 → FrOk h₀ env c.sc ρ2 h' W' → Rr' (.ok .next) { s with heap := h', toks := tk }) →
            codeAny (model prog w) A (.compLoop (.ListComp elt gens scope pos) (k + 1) (.ref J) (.ref D) env) Rr' { s with heap := h5, toks := tk4 } := fun Rr' hq =>
          K.co c ρ1 σ2 _ gens (k + 1) it' acc ρ2 σ3 e5 ⟨elt, scope, pos, rfl⟩ A env { s with heap := h5, toks := tk4 } W4 J D hA f5 hnc R5 kJ hJW hJf hJ0 hD4 _ hq
        have both : ∀ Rr' : Result → Shared → Prop, (∀ h' tk W', LoopEnd (fun b => b = env.locals) J h5 W4 σ2 h' W' σ3 → SR prog w h₀ h' W' σ3 → FrOk h₀ env c.sc ρ2 h' W' → Rr' (.ok .next) { s with heap := h', toks := tk }) →
            codeAny (model prog w) A (.compStart (.ListComp elt gens scope pos) (k + 1) (.ref J) (.ref D) env) Rr' { s with heap := h5, toks := tk4 } := fun Rr' hq =>
          start_ok hg2 hga2' (inner Rr' hq) fun E => it_self kJ (inner Rr' hq)
        refine both _ fun h6 tk6 W6 L6 R6 f6 => ?_
        have S46 : Stp (fun b => b = env.locals) h4 W4 σ2 h6 W6 σ3 := LoopEnd.out R4 S5.of0 hJ L6
        have hIl : I ≠ env.locals := fun q => hIf (.inl q)
        have k6 := k4.stp S46 R4 (fun b o q e => f4.niF b o (.inl q) e) hI4 hIl
        have hI6 : I ∉ W6 := by
          obtain ⟨o, ho, _⟩ := k4.obj
          exact S46.newer ho hI4
        refine wpAny_pure ⟨rfl, ?_⟩
        exact again he ((S13.trans (S4.no _)).trans (S46.weak fun b q => .inl q)) R6 f6 k6 hI6
end
end Mine
end
section
open PySem PySem.W PySem.SeqAt PyProof.Rows
set_option maxRecDepth 100000
set_option linter.unusedVariables false
namespace Mine

noncomputable def addrOf' (env : Env) (n : Str) : Addr := (env.cells.lookup n).getD 0
noncomputable def clOf (env : Env) : List (Str × NameKind) → List (Str × Addr) → List (Str × Addr)
  | [], acc => acc
  | (n, k) :: r, acc => match k with
    | .free => clOf env r ((n, addrOf' env n) :: acc)
    | _ => clOf env r acc
theorem closure_eq {env : Env} {scope : Scope} (h : ∀ n, (n, NameKind.free) ∈ scope.names → ∃ c, env.cells.lookup n = some c) : closureFor scope env = pure (clOf env scope.names []) := by
  have go : ∀ (names : List (Str × NameKind)) (acc : List (Str × Addr)), (∀ n, (n, NameKind.free) ∈ names → ∃ c, env.cells.lookup n = some c) →
      forIn names acc (fun (x : Str × NameKind) (r : List (Str × Addr)) => (if (x.2 == NameKind.free) = true then do let a ← cellOf env x.1; pure (ForInStep.yield ((x.1, a) :: r)) else pure (ForInStep.yield r) : Sem (ForInStep (List (Str × Addr))))) = pure (clOf env names acc) := by
    intro names
    induction names with
    | nil => intro acc _; rw [List.forIn_nil]; rfl
    | cons p r ih =>
      intro acc hp
      obtain ⟨n, k⟩ := p
      rw [List.forIn_cons]
      have hr := fun a => ih a fun n m => hp n (.tail _ m)
      cases k with
      | free =>
        obtain ⟨c, hc⟩ := hp n (.head _)
        have hco : cellOf env n = pure c := by unfold cellOf; rw [hc]
        have h1 : ((NameKind.free == NameKind.free) = true) := rfl
        simp only [h1, if_true, hco, pure_bind]
        rw [hr]
        have e1 : addrOf' env n = c := by unfold addrOf'; rw [hc]; rfl
        have e2 : clOf env ((n, NameKind.free) :: r) acc = clOf env r ((n, addrOf' env n) :: acc) := rfl
        rw [e2, e1]
      | _ =>
        first
          | (rw [if_neg (by simp), pure_bind]; exact hr acc)
  unfold closureFor
  have := go scope.names [] h
  simp only [] at this ⊢
  rw [this]
  rfl

theorem clOf_mem {env : Env} {x : Str} {c : Addr} : ∀ {names : List (Str × NameKind)} {acc : List (Str × Addr)}, (x, c) ∈ clOf env names acc → (x, c) ∈ acc ∨ ((x, NameKind.free) ∈ names ∧ c = addrOf' env x)
  | [], acc, m => .inl m
  | (n, k) :: r, acc, m => by
    unfold clOf at m
    split at m
    · rcases clOf_mem m with m | ⟨m, e⟩
      · rcases List.mem_cons.mp m with e | m
        · cases e; exact .inr ⟨.head _, rfl⟩
        · exact .inl m
      · exact .inr ⟨.tail _ m, e⟩
    · rcases clOf_mem m with m | ⟨m, e⟩
      · exact .inl m
      · exact .inr ⟨.tail _ m, e⟩
theorem clOf_some {env : Env} {x : Str} : ∀ {names : List (Str × NameKind)} {acc : List (Str × Addr)}, ((x, NameKind.free) ∈ names ∨ (acc.lookup x).isSome = true) → ((clOf env names acc).lookup x).isSome = true
  | [], acc, m => by
    rcases m with m | m
    · cases m
    · exact m
  | (n, k) :: r, acc, m => by
    unfold clOf
    have up : ∀ {b}, (acc.lookup x).isSome = true → (((n, b) :: acc).lookup x).isSome = true := fun {b} e => by
      rw [List.lookup_cons]
      split
      · rfl
      · exact e
    split
    · refine clOf_some ?_
      rcases m with m | m
      · rcases List.mem_cons.mp m with e | m
        · cases e; right; rw [List.lookup_cons]; simp
        · exact .inl m
      · exact .inr (up m)
    · rename_i hk
      refine clOf_some ?_
      rcases m with m | m
      · rcases List.mem_cons.mp m with e | m
        · cases e; exact absurd rfl hk
        · exact .inl m
      · exact .inr m
theorem clOf_lookup {env : Env} {names : List (Str × NameKind)} {x : Str} {c : Addr} (e : (clOf env names []).lookup x = some c) : (x, NameKind.free) ∈ names ∧ c = addrOf' env x := by
  rcases clOf_mem (mem_of_lookup e) with m | m
  · cases m
  · exact m
theorem clOf_pw {env : Env} (hap : env.cells.Pairwise fun x y => x.2 ≠ y.2) : ∀ {names : List (Str × NameKind)} {acc : List (Str × Addr)}, (names.map (·.1)).Nodup → (∀ n, (n, NameKind.free) ∈ names → ∃ c, env.cells.lookup n = some c) →
    (acc.Pairwise fun x y => x.2 ≠ y.2) → (∀ p ∈ acc, env.cells.lookup p.1 = some p.2 ∧ p.1 ∉ names.map (·.1)) → (clOf env names acc).Pairwise fun x y => x.2 ≠ y.2
  | [], acc, _, _, h, _ => h
  | (n, k) :: r, acc, hn, hf, h, ha => by
    simp only [List.map_cons, List.nodup_cons] at hn
    unfold clOf
    have ha' : ∀ p ∈ acc, env.cells.lookup p.1 = some p.2 ∧ p.1 ∉ r.map (·.1) := fun p m => ⟨(ha p m).1, fun q => (ha p m).2 (.tail _ q)⟩
    split
    · obtain ⟨c, hc⟩ := hf n (.head _)
      have hadd : addrOf' env n = c := by unfold addrOf'; rw [hc]; rfl
      rw [hadd]
      refine clOf_pw hap hn.2 (fun n m => hf n (.tail _ m)) (List.pairwise_cons.mpr ⟨fun p m e => ?_, h⟩) (fun p m => ?_)
      · have := name_of_addr hap (mem_of_lookup hc) (show (p.1, c) ∈ env.cells from by rw [show c = p.2 from e]; exact mem_of_lookup (ha p m).1)
        exact (ha p m).2 (by rw [← this]; exact .head _)
      · rcases List.mem_cons.mp m with e | m
        · subst e; exact ⟨hc, hn.1⟩
        · exact ha' p m
    · exact clOf_pw hap hn.2 (fun n m => hf n (.tail _ m)) h ha'

theorem lookup_relabel {env : Env} : ∀ {names : List (Str × NameKind)} {x : Str}, (names.map fun (n, k) => if (k == NameKind.free && env.scope.kind == .function && env.kindOf n == some .cell) then (n, NameKind.cell) else (n, k)).lookup x =
    (names.lookup x).map fun k => if (k == NameKind.free && env.scope.kind == .function && env.kindOf x == some .cell) then NameKind.cell else k
  | [], x => rfl
  | (n, k) :: r, x => by
    have ih := @lookup_relabel env r x
    rw [List.map_cons]
    show List.lookup x ((if (k == NameKind.free && env.scope.kind == .function && env.kindOf n == some .cell) = true then (n, NameKind.cell) else (n, k)) :: _) = _
    cases hx : x == n with
    | true =>
      have := beq_iff_eq.mp hx
      subst this
      by_cases hc : (k == NameKind.free && env.scope.kind == .function && env.kindOf x == some .cell) = true
      · rw [if_pos hc]; simp only [List.lookup_cons, hx, Option.map_some]; rw [if_pos hc]
      · rw [if_neg hc]; simp only [List.lookup_cons, hx, Option.map_some]; rw [if_neg hc]
    | false =>
      by_cases hc : (k == NameKind.free && env.scope.kind == .function && env.kindOf n == some .cell) = true
      · rw [if_pos hc]; simp only [List.lookup_cons, hx]; exact ih
      · rw [if_neg hc]; simp only [List.lookup_cons, hx]; exact ih

theorem compOk_all {sc : List (Str × NameKind)} : ∀ {names : List (Str × NameKind)}, compOk sc names = true → ∀ x k, (x, k) ∈ names → (k = .free ∧ (kindIn sc x = some .cell ∨ kindIn sc x = some .free)) ∨ k = .local ∨ k = .globalImplicit
  | [], _, x, k, m => by cases m
  | (n, q) :: r, h, x, k, m => by
    have hq : compOk sc r = true ∧ ((q = .free ∧ (kindIn sc n = some .cell ∨ kindIn sc n = some .free)) ∨ q = .local ∨ q = .globalImplicit) := by
      unfold compOk at h
      simp only at h
      split at h
      · split at h
        · rename_i e; exact ⟨h, .inl ⟨rfl, .inl e⟩⟩
        · rename_i e; exact ⟨h, .inl ⟨rfl, .inr e⟩⟩
        · cases h
      · exact ⟨h, .inr (.inl rfl)⟩
      · exact ⟨h, .inr (.inr rfl)⟩
      · cases h
    rcases List.mem_cons.mp m with e | m
    · cases e; exact hq.2
    · exact compOk_all hq.1 x k m

theorem lk_freeOf {ρ : Rho} {x : Str} {v : AV} : ∀ {names : List (Str × NameKind)}, lk (freeOf names ρ) x = some v → (x, NameKind.free) ∈ names ∧ lk ρ x = some v
  | [], e => by cases e
  | (n, k) :: r, e => by
    unfold freeOf at e
    simp only at e
    split at e
    · split at e
      · rename_i u hu
        unfold lk at e
        simp only at e
        cases q : sEq n x with
        | true =>
          rw [q] at e
          cases e
          have := sEq_iff.mp q
          subst this
          exact ⟨.head _, hu⟩
        | false =>
          rw [q] at e
          obtain ⟨h1, h2⟩ := lk_freeOf e
          exact ⟨.tail _ h1, h2⟩
      · obtain ⟨h1, h2⟩ := lk_freeOf e
        exact ⟨.tail _ h1, h2⟩
    · obtain ⟨h1, h2⟩ := lk_freeOf e
      exact ⟨.tail _ h1, h2⟩

theorem lookup_of_mem {names : List (Str × NameKind)} (hn : (names.map (·.1)).Nodup) {x : Str} {k : NameKind} (m : (x, k) ∈ names) : names.lookup x = some k := by
  induction names with
  | nil => cases m
  | cons p r ih =>
    obtain ⟨n, q⟩ := p
    simp only [List.map_cons, List.nodup_cons] at hn
    rw [List.lookup_cons]
    rcases List.mem_cons.mp m with e | m
    · cases e; simp
    · have hne : (x == n) = false := by simpa using fun e : x = n => hn.1 (e ▸ List.mem_map.mpr ⟨_, m, rfl⟩)
      rw [hne]
      exact ih hn.2 m

section
variable {prog : Program} {w : World} {h₀ h h' : Heap} {W W' : List Addr} {σ σ' : Sto} {s : Shared} {A : Around} {F : Addr → Prop} {it : It} {I : Addr} {env : Env} {sc : List (Str × NameKind)} {c : Cx} {ρ ρ' : Rho} {R : Rec}

theorem comp_frame {scope : Scope} {C : Addr} (hk : scope.kind = .function) (hn : (scope.names.map (·.1)).Nodup) (hok : compOk sc scope.names = true) (f : FrOk h₀ env sc ρ h W) (hns : h'.Ns C (fun _ => none))
    (k : ∀ b o, h.get? b = some o → h'.get? b = some o) (hC : h.get? C = none) (hC0 : h₀.get? C = none) (hCW : C ∉ W') (hW : ∀ (i : Nat) (a : Addr), W[i]? = some a → W'[i]? = some a) (hnew : ∀ a ∈ W', a ∈ W ∨ h.get? a = none) :
    FrOk h₀ (compEnvC scope (clOf env scope.names []) C env) scope.names (freeOf scope.names ρ) h' W' := by
  have hall := compOk_all hok
  have hfree : ∀ n, (n, NameKind.free) ∈ scope.names → (env.kindOf n = some .cell ∨ env.kindOf n = some .free) ∧ ∃ c v, env.cells.lookup n = some c ∧ h.IsCell c v := fun n m => by
    rcases hall n .free m with ⟨_, q | q⟩ | q | q
    · obtain ⟨h1, h2⟩ := f.ce n q; exact ⟨.inl h1, h2⟩
    · exact f.fr n q
    · cases q
    · cases q
  have cellK : ∀ {c : Addr} {v : Option Value}, h.IsCell c v → h'.IsCell c v := fun {c v} q => by
    obtain ⟨o, ho, hd⟩ := q
    exact ⟨o, k c o ho, hd⟩
  have hko : ∀ x, (compEnvC scope (clOf env scope.names []) C env).kindOf x = (scope.names.lookup x).map fun k => if (k == NameKind.free && env.scope.kind == .function && env.kindOf x == some .cell) then NameKind.cell else k := fun x => lookup_relabel
  have hkf : ∀ x, (x, NameKind.free) ∈ scope.names → (compEnvC scope (clOf env scope.names []) C env).kindOf x = some .cell ∨ (compEnvC scope (clOf env scope.names []) C env).kindOf x = some .free := fun x m => by
    rw [hko, lookup_of_mem hn m]
    simp only [Option.map_some]
    split
    · exact .inl rfl
    · exact .inr rfl
  have hcl : ∀ x, (x, NameKind.free) ∈ scope.names → ∀ c, env.cells.lookup x = some c → (clOf env scope.names []).lookup x = some c := fun x m c hc => by
    obtain ⟨c', hc'⟩ := Option.isSome_iff_exists.mp (clOf_some (env := env) (x := x) (names := scope.names) (acc := []) (.inl m))
    have := (clOf_lookup hc').2
    unfold addrOf' at this
    rw [hc] at this
    rw [hc', this]; rfl
  have plain : ∀ x kk, kindIn scope.names x = some kk → (kk == NameKind.free) = false → (compEnvC scope (clOf env scope.names []) C env).kindOf x = some kk := fun x kk e q => by
    rw [hko, ← kindIn_eq, e]
    simp only [Option.map_some, q, Bool.false_and, Bool.false_eq_true, if_false]
  refine ⟨hk, f.glob, f.bi, ⟨_, hns, fun x v e kk => ?_⟩, fun x v e kk => ?_, fun x e => plain x _ e rfl, fun x e => plain x _ e rfl, fun x e => ?_, fun x e => ?_, clOf_pw f.ap hn (fun n m => ?_) .nil (fun p m => by cases m), fun x c e => ?_, hCW, hC0⟩
  · obtain ⟨m, _⟩ := lk_freeOf e
    rcases hkf x m with q | q <;> (rw [q] at kk; cases kk)
  · obtain ⟨m, e'⟩ := lk_freeOf e
    obtain ⟨hk1, _⟩ := hfree x m
    obtain ⟨_, c, val, h2, h3, h4⟩ := f.cell x v e' (by rcases hk1 with q | q <;> (rw [q]; decide))
    exact ⟨hkf x m, c, val, hcl x m c h2, cellK h3, RV.keep (P := NoF) (fun b o _ e => k b o e) (niNo h) hW h4⟩
  · rw [kindIn_eq] at e
    rcases hall x .cell (mem_of_lookup e) with ⟨q, _⟩ | q | q <;> cases q
  · rw [kindIn_eq] at e
    have m := mem_of_lookup e
    obtain ⟨_, c, v, h2, h3⟩ := hfree x m
    exact ⟨hkf x m, c, v, hcl x m c h2, cellK h3⟩
  · obtain ⟨_, c, v, h2, _⟩ := hfree n m
    exact ⟨c, h2⟩
  · obtain ⟨m, e'⟩ := clOf_lookup e
    obtain ⟨_, c', v, h2, h3⟩ := hfree x m
    unfold addrOf' at e'
    rw [h2] at e'
    have : c = c' := e'
    subst this
    obtain ⟨g1, g2, g3, _⟩ := f.cl x c h2
    obtain ⟨o, ho, _⟩ := id h3
    refine ⟨fun q => ?_, fun q => ?_, g3, v, cellK h3⟩
    · rw [show c = C from q, hC] at ho; cases ho
    · rcases hnew c q with q | q
      · exact g2 q
      · rw [q] at ho; cases ho

theorem FrOk.stpF (f : FrOk h₀ env sc ρ h W) (R : SR prog w h₀ h W σ) (S : Stp F h W σ h' W' σ') (nf : NI F h) (hF : ∀ b, frF env b → ¬ F b) : FrOk h₀ env sc ρ h' W' :=
  f.keepP (P := fun b => b ∈ W ∨ F b) (fun b o n e => S.keep b o (fun m => n (.inl m)) (fun q => n (.inr q)) e) (fun b o p e => p.elim (fun m => R.ni b o m e) fun q => nf b o q e) (fun i a e => S.mem e)
    (fun b p q => q.elim (f.fW b · p) (hF b p)) fun b p => by
      obtain ⟨o, e⟩ := f.here p
      exact S.newer e (f.fW b · p)
end
end Mine
end
section
open PySem PySem.W PySem.SeqAt PyProof.Rows
set_option maxRecDepth 100000
set_option linter.unusedVariables false
namespace Mine
section
variable {prog : Program} {w : World} {K : Frag} {h₀ h h' : Heap} {W W' : List Addr} {σ σ' : Sto} {s : Shared} {A : Around} {F : Addr → Prop} {it : It} {I : Addr} {env : Env} {sc : List (Str × NameKind)} {c : Cx} {ρ ρ' : Rho} {R : Rec}

theorem funKind_eq {k : ScopeKind} (h : funKind k = true) : k = .function := by
  cases k <;> first | rfl | (simp [funKind] at h)

-- what stands when the comprehension's block has ended
structure CompAt (prog : Program) (w : World) (h₀ : Heap) (s : Shared) (W : List Addr) (σ : Sto) (h5 : Heap) (W5 : List Addr) (σ' : Sto) (v : AV) (D C : Addr) : Prop where
  c0 : s.heap.get? C = none
  c00 : h₀.get? C = none
  cW : C ∉ W5
  st : Stp (fun b => b = C) s.heap W σ h5 W5 σ'
  sr : SR prog w h₀ h5 W5 σ'
  rv : RV h₀ h5 W5 v (.ref D)
  ns : ∃ m, h5.Ns C m

theorem comp_core (b0 : Bs0 h₀) (K : RecS prog w h₀ R) {elt : Expr} {gens : List Comprehension} {scope : Scope} {pos p : Pos} {v : AV} {use : Option (Value → Sem Unit)} {E Q : Value → Shared → Prop}
    (he : lcStep R c ρ σ (.ListComp elt gens scope pos) gens scope = some (v, σ')) (hA : AOk A c.d) (f : FrOk h₀ env c.sc ρ s.heap W) (S0 : SR prog w h₀ s.heap W σ)
    (fin : ∀ h5 tk5 W5 D C, CompAt prog w h₀ s W σ h5 W5 σ' v D C → compPost (model prog w) A E use Q (.ref D) C (.ok .next) { s with heap := h5, toks := tk5 }) :
    wpAny (model prog w) A (comprehension (.ListComp elt gens scope pos) scope env p (PySem.newList []) (firstAsync gens) (firstIter gens env) use) Q E s := by
  unfold lcStep at he
  split at he <;> (try (cases he; done))
  rename_i g gs
  split at he <;> (try (cases he; done))
  rename_i hga hns hok
  have hga' : g.is_async = 0 := (Z.eqB_iff _ _).mp hga
  unfold lcOk at hok
  split at hok <;> (try (cases hok; done))
  rename_i hk
  split at hok <;> (try (cases hok; done))
  rename_i hnd
  have hk' := funKind_eq hk
  have hn := nodupS_iff hnd
  have hall := compOk_all hok
  obtain ⟨⟨x, σ1⟩, e1, he⟩ := Option.bind_eq_some_iff.mp he
  obtain ⟨it, e2, he⟩ := Option.bind_eq_some_iff.mp he
  obtain ⟨⟨ρ2, σ3⟩, e3, he⟩ := Option.bind_eq_some_iff.mp he
  cases he
  have hfree : ∀ n, (n, NameKind.free) ∈ scope.names → ∃ cc, env.cells.lookup n = some cc := fun n m => by
    rcases hall n .free m with ⟨_, q | q⟩ | q | q
    · obtain ⟨_, cc, _, h2, _⟩ := f.ce n q; exact ⟨cc, h2⟩
    · obtain ⟨_, cc, _, h2, _⟩ := f.fr n q; exact ⟨cc, h2⟩
    · cases q
    · cases q
  have hfa : firstAsync (g :: gs) = false := by
    obtain ⟨a1, a2, a3, a4⟩ := g
    simp only at hga'
    subst hga'
    rfl
  have hfi : firstIter (g :: gs) env = eval g.iter env := by
    obtain ⟨a1, a2, a3, a4⟩ := g
    rfl
  rw [hfa, hfi]
  refine wpAny_comprehension_free (g := g) (gs := gs) rfl (noSet_fold hns) (closure_eq hfree) hk' (fun y hy hl => by obtain ⟨n, kk⟩ := y; simp only at hl; subst hl; exact lookup_of_mem hn hy) ?_
  refine K.ev c ρ σ g.iter x σ1 e1 A env s W hA f S0 _ _ fun h1 tk1 W1 vx S1 R1 rx => ?_
  have f1 := f.stp S0 S1
  refine iter_ok b0 (s := { s with heap := h1, toks := tk1 }) e2 R1 rx _ _ fun h2 I hI R2 S2 kI => ?_
  refine wpAny_newObj_type ?_
  obtain ⟨R3, S3, r3⟩ := newList (h := h2) (xs := []) (vs := []) R2 .nil
  refine wpAny_newFunctionEnv (fun y hy => ?_) (by intro y hy; cases hy) (fun h4 hns4 hsb4 => ?_) hk'
  · obtain ⟨n, kk⟩ := y
    rcases hall n kk hy with ⟨q, _⟩ | q | q <;> (simp only; rw [q]; decide)
  dsimp only at hns4 hsb4
  generalize hH3 : h2.push { cls := .type "list", dict := none, data := .seq ([] : List Value).toArray } = h3 at R3 S3 r3 hns4 hsb4
  have hD : h2.objs.size < h3.objs.size := by rw [← hH3, Heap.size_push]; exact Nat.lt_succ_self _
  have keep4 : ∀ b o, h3.get? b = some o → h4.get? b = some o := fun b o e => (hsb4.2 b (Nat.ne_of_lt (Heap.lt_size e))).trans (Heap.get?_push_of_some _ e)
  have hCn : h3.get? h3.objs.size = none := top_none _
  obtain ⟨R4, S4⟩ := R3.grow0 keep4
  have S24 : Stp NoF h2 W1 σ1 h4 (W1 ++ [h2.objs.size]) (σ1.new (.list [])) := S3.trans S4
  have S14 : Stp NoF h1 W1 σ1 h4 (W1 ++ [h2.objs.size]) (σ1.new (.list [])) := S2.trans S24
  have hC1 : h1.get? h3.objs.size = none := by
    cases q : h1.get? h3.objs.size with
    | none => rfl
    | some o => obtain ⟨o', e'⟩ := (S2.trans S3).live _ _ q; rw [hCn] at e'; cases e'
  have hCs : s.heap.get? h3.objs.size = none := by
    cases q : s.heap.get? h3.objs.size with
    | none => rfl
    | some o => obtain ⟨o', e'⟩ := S1.live _ _ q; rw [hC1] at e'; cases e'
  have hC0 : h₀.get? h3.objs.size = none := by
    cases q : h₀.get? h3.objs.size with
    | none => rfl
    | some o => rw [S0.old _ _ q] at hCs; cases hCs
  have hCW : h3.objs.size ∉ W1 ++ [h2.objs.size] := fun m => by
    obtain ⟨o, e, _⟩ := R3.obj m
    rw [hCn] at e; cases e
  have hns4' : h4.Ns h3.objs.size (fun _ => none) := by simpa using hns4
  have k14 : ∀ b o, h1.get? b = some o → h4.get? b = some o := fun b o e => by
    by_cases m : b ∈ W1
    · obtain ⟨i, ei⟩ := List.mem_iff_getElem?.mp m
      obtain ⟨cc, ec⟩ := R1.get ei
      obtain ⟨c1, e1, _, q1⟩ := S14.ver i cc ec
      have hc1 : c1.ver = cc.ver := by
        obtain ⟨c2, e2', _, q2⟩ := S2.ver i cc ec
        have h2' : c2 = cc := by rw [ec] at e2'; cases e2'; rfl
        have hnew : (σ1.new (.list [])).get i = some cc := by
          rw [Sto.new_get, if_neg (Nat.ne_of_lt (Sto.get_lt ec))]; exact ec
        rw [hnew] at e1; cases e1; rfl
      exact ((q1 hc1.symm).2 b ei).trans e
    · exact S14.keep b o m (fun q => q) e
  have hI1 : I ∉ W1 := fun m => by
    obtain ⟨o, e, _⟩ := R1.obj m
    rw [hI] at e; cases e
  have hI2 : ∃ o, h2.get? I = some o := by obtain ⟨o, ho, _⟩ := kI.obj; exact ⟨o, ho⟩
  obtain ⟨oI, hoI⟩ := hI2
  have fc := comp_frame (scope := scope) (C := h3.objs.size) (W' := W1 ++ [h2.objs.size]) hk' hn hok f1 hns4' k14 hC1 hC0 hCW (fun i a e => by rw [List.getElem?_append_left (List.getElem?_eq_some_iff.mp e).1]; exact e) (fun a m => by
    rcases List.mem_append.mp m with m | m
    · exact .inl m
    · simp only [List.mem_singleton] at m
      subst m
      right
      cases q : h1.get? h2.objs.size with
      | none => rfl
      | some o => obtain ⟨o', e'⟩ := S2.live _ _ q; rw [top_none] at e'; cases e')
  have k4 := kI.stp S24 R2 (niNo _) hI1 (fun p => p)
  have hI4 : I ∉ W1 ++ [h2.objs.size] := S24.newer hoI hI1
  have hIC : I ≠ h3.objs.size := fun q => by
    have := S3.live I oI hoI
    obtain ⟨o', e'⟩ := this
    rw [q, hCn] at e'; cases e'
  have hIf : ¬ frF (compEnvC scope (clOf env scope.names []) h3.objs.size env) I := fun p => by
    rcases p with q | ⟨y, q⟩
    · exact hIC q
    · obtain ⟨m, q'⟩ := clOf_lookup q
      obtain ⟨cc, hcc⟩ := hfree y m
      unfold addrOf' at q'
      rw [hcc] at q'
      have : I = cc := q'
      subst this
      obtain ⟨o, ho⟩ := f1.hereC hcc
      rw [hI] at ho; cases ho
  have hI0 : h₀.get? I = none := by
    cases q : h₀.get? I with
    | none => rfl
    | some o => rw [R1.old _ _ q] at hI; cases hI
  have hacc : (W1 ++ [h2.objs.size])[σ1.n]? = some h2.objs.size := by rw [← R2.n]; simp
  have hnc : ∀ x, kindIn scope.names x ≠ some .cell := fun y e => by
    rw [kindIn_eq] at e
    rcases hall y .cell (mem_of_lookup e) with ⟨q, _⟩ | q | q <;> cases q
  have inner : ∀ Rr : Result → Shared → Prop, (∀ h' tk W', LoopEnd (fun b => b = h3.objs.size) I h4 (W1 ++ [h2.objs.size]) (σ1.new (.list [])) h' W' σ3 → SR prog w h₀ h' W' σ3 → FrOk h₀ (compEnvC scope (clOf env scope.names []) h3.objs.size env) scope.names ρ2 h' W' →
        Rr (.ok .next) { s with heap := h', toks := tk }) →
      codeAny (model prog w) A (.compLoop (.ListComp elt (g :: gs) scope pos) 0 (.ref I) (.ref h2.objs.size) (compEnvC scope (clOf env scope.names []) h3.objs.size env)) Rr { s with heap := h4, toks := tk1 + ([] : List (Str × Value)).length } := fun Rr hq =>
    K.co ⟨c.d, scope.names⟩ (freeOf scope.names ρ) _ _ (g :: gs) 0 it σ1.n ρ2 σ3 e3 ⟨elt, scope, pos, rfl⟩ A _ { s with heap := h4, toks := tk1 + ([] : List (Str × Value)).length } (W1 ++ [h2.objs.size]) I h2.objs.size hA fc hnc R4 k4 hI4 hIf hI0 hacc Rr hq
  have both : ∀ Rr : Result → Shared → Prop, (∀ h' tk W', LoopEnd (fun b => b = h3.objs.size) I h4 (W1 ++ [h2.objs.size]) (σ1.new (.list [])) h' W' σ3 → SR prog w h₀ h' W' σ3 → FrOk h₀ (compEnvC scope (clOf env scope.names []) h3.objs.size env) scope.names ρ2 h' W' →
        Rr (.ok .next) { s with heap := h', toks := tk }) →
      codeAny (model prog w) A (.compStart (.ListComp elt (g :: gs) scope pos) 0 (.ref I) (.ref h2.objs.size) (compEnvC scope (clOf env scope.names []) h3.objs.size env)) Rr { s with heap := h4, toks := tk1 + ([] : List (Str × Value)).length } := fun Rr hq =>
    start_ok (g := g) rfl hga' (inner Rr hq) fun E => it_self k4 (inner Rr hq)
  refine both _ fun h5 tk5 W5 L5 R5 f5 => ?_
  have S15 : Stp (fun b => b = h3.objs.size) h1 W1 σ1 h5 W5 σ3 := LoopEnd.out R1 S14.of0 hI L5
  have hD5 : W5[σ1.n]? = some h2.objs.size := by
    obtain ⟨h5', S5', _⟩ := L5
    exact S5'.mem hacc
  obtain ⟨m5, hn5, _⟩ := f5.ns
  exact fin h5 tk5 W5 h2.objs.size h3.objs.size ⟨hCs, hC0, f5.lW, S1.of0.trans S15, R5, .ref hD5, m5, hn5⟩

theorem CompAt.off {h5 h6 : Heap} {W5 : List Addr} {v : AV} {D C : Addr} (k : CompAt prog w h₀ s W σ h5 W5 σ' v D C) (S0 : SR prog w h₀ s.heap W σ) (hs : Heap.SameBut C h5 h6) :
    Stp NoF s.heap W σ h6 W5 σ' ∧ SR prog w h₀ h6 W5 σ' ∧ RV h₀ h6 W5 v (.ref D) := by
  obtain ⟨m, o, _, _, ho, hd, _⟩ := k.ns
  have so : Mine.soft o = true := soft_dict (by assumption)
  have nii : NI (fun b => b = C) h5 := fun b o' q e => by subst q; rw [ho] at e; cases e; exact soft_ni so
  have kk : ∀ b o, b ≠ C → h5.get? b = some o → h6.get? b = some o := fun b o n e => (hs.2 b n).trans e
  refine ⟨LoopEnd.out (F := NoF) S0 (Stp.refl _ _ _ _) k.c0 ⟨h5, k.st.weak fun b q => .inr q, kk⟩, k.sr.keepI nii kk k.cW k.c00, RV.keep (P := fun b => b = C) kk nii (fun _ _ e => e) k.rv⟩

theorem ev_ListComp (b0 : Bs0 h₀) (K : RecS prog w h₀ R) {elt : Expr} {gens : List Comprehension} {scope : Scope} {pos : Pos} {v : AV}
    (he : lcStep R c ρ σ (.ListComp elt gens scope pos) gens scope = some (v, σ')) (hA : AOk A c.d) (f : FrOk h₀ env c.sc ρ s.heap W) (S0 : SR prog w h₀ s.heap W σ) :
    Gives prog w h₀ NoF W σ s A (eval (.ListComp elt gens scope pos) env) v σ' := by
  intro E Q q
  rw [eval_ListComp]
  refine comp_core b0 K he hA f S0 fun h5 tk5 W5 D C k => ?_
  obtain ⟨m, hm⟩ := k.ns
  refine ⟨m, hm, fun h6 hs => ?_⟩
  obtain ⟨S6, R6, r6⟩ := k.off S0 hs
  exact q h6 tk5 W5 _ S6 R6 r6

theorem use_ListComp (b0 : Bs0 h₀) (K : RecS prog w h₀ R) {elt : Expr} {gens : List Comprehension} {scope : Scope} {pos : Pos} {t : Expr} {v : AV}
    (he : lcStep R c ρ σ (.ListComp elt gens scope pos) gens scope = some (v, σ')) (hl : letTo c.sc ρ t v = some ρ') (hA : AOk A c.d) (f : FrOk h₀ env c.sc ρ s.heap W) (S0 : SR prog w h₀ s.heap W σ) :
    ∀ (E : Value → Shared → Prop) (Q : Unit → Shared → Prop), (∀ h' tk W', Stp (frF env) s.heap W σ h' W' σ' → SR prog w h₀ h' W' σ' → FrOk h₀ env c.sc ρ' h' W' → Q () { s with heap := h', toks := tk }) →
      wpAny (model prog w) A (evalThenUse (.ListComp elt gens scope pos) env (assign t env)) Q E s := by
  intro E Q q
  show wpAny (model prog w) A (comprehension (.ListComp elt gens scope pos) scope env (firstIterPos gens pos) (PySem.newList []) (firstAsync gens) (firstIter gens env) (some (assign t env)) >>= fun _ => pure ()) Q E s
  refine wpAny_bind (comp_core b0 K he hA f S0 fun h5 tk5 W5 D C k => ?_)
  have nF : ∀ b, frF env b → b ≠ C := fun b p q => by
    obtain ⟨o, e⟩ := f.here p
    rw [q, k.c0] at e; cases e
  have f5 : FrOk h₀ env c.sc ρ h5 W5 := f.stpF S0 k.st (fun b o q e => by rw [q, k.c0] at e; cases e) nF
  refine letTo_ok (s := { s with heap := h5, toks := tk5 }) hA.hd hl k.sr f5 k.rv _ _ fun h6 tk6 S6 R6 f6 => ?_
  obtain ⟨m, o, es, ep, ho, hd⟩ := k.ns
  have ho6 : h6.get? C = some o := S6.keep C o k.cW (fun p => nF C (frC_sub p) rfl) ho
  refine ⟨m, ⟨o, es, ep, ho6, hd⟩, fun h7 hs => ?_⟩
  have so : Mine.soft o = true := soft_dict hd.1
  have nii : NI (fun b => b = C) h6 := fun b o' q e => by subst q; rw [ho6] at e; cases e; exact soft_ni so
  have kk : ∀ b o, b ≠ C → h6.get? b = some o → h7.get? b = some o := fun b o n e => (hs.2 b n).trans e
  have S7 : Stp (frF env) s.heap W σ h7 W5 σ' :=
    LoopEnd.out S0 (Stp.refl _ _ _ _) k.c0 ⟨h6, (k.st.weak fun b q => .inr q).trans (S6.weak fun b p => .inl (frC_sub p)), kk⟩
  have R7 := R6.keepI nii kk k.cW k.c00
  have f7 := f6.keepP (W' := W5) (P := fun b => b = C) kk nii (fun _ _ e => e) (fun b p => nF b p) (fun b p m => f6.fW b m p)
  exact wpAny_pure (q h7 tk6 W5 S7 R7 f7)
end
end Mine
end
section
open PySem PySem.W PySem.SeqAt PyProof.Rows
set_option maxRecDepth 100000
set_option linter.unusedVariables false
namespace Mine
section
variable {prog : Program} {w : World} {K : Frag} {h₀ h h' : Heap} {W W' : List Addr} {σ σ' : Sto} {s : Shared} {A : Around} {F : Addr → Prop} {it : It} {I : Addr} {env : Env} {sc : List (Str × NameKind)} {c : Cx} {ρ ρ' : Rho} {R : Rec}

theorem mapSeq_set (its : Array Value) (n j : Nat) (v : Value) : ∃ n', Obj.mapSeq (fun xs => xs.setIfInBounds j v) { cls := .type "list", data := .seq its n } = { cls := .type "list", data := .seq (its.setIfInBounds j v) n' } := ⟨_, rfl⟩

theorem setPlain {l : Addr} {items : Array Value} {k : Int} {t : Tok} {v : Value} {Q : Unit → Shared → Prop} {E : Value → Shared → Prop} (hl : s.heap.PlainList l items) (h0 : 0 ≤ k) (hfit : k < 2 ^ 63) (hn : k < items.size)
    (hQ : ∀ h', h'.PlainList l (items.setIfInBounds k.toNat v) → Heap.SameBut l s.heap h' → Q () { s with heap := h' }) :
    wpAny (model prog w) A (setItem (.ref l) (.int k t) v) Q E s := by
  have hil := hl.isList
  obtain ⟨n, ho⟩ := id hl
  unfold setItem
  try with_reducible refine wpAny_holding ?_
  first | refine wpAny_bind (wpAny_pure ?_) | skip
  refine wpAny_bind (wpAny_sequenceKey hil.typeIs (by decide) ?_)
  refine wpAny_bind (wpAny_callSpecial?_slot (name := Str.ofString "__setitem__") hil.typeIs slot_list_setitem
    (wpAny_call_entry slot_list_setitem hil.typeIs entry_list_setitem ?_ (args_list_setitem _ _ _)))
  show wpAny _ _ (Builtin.List.listSubscript? (.int k t) >>= _) _ _ s
  refine wpAny_bind (wpAny_listSubscript_int (fitsIndex_of h0 hfit) ?_)
  clear hfit
  obtain ⟨j, rfl⟩ := Int.eq_ofNat_of_zero_le h0
  have hj : j < items.size := by omega
  have hx' : items[j]? = some items[j] := Array.getElem?_eq_getElem hj
  obtain ⟨n', hm⟩ := mapSeq_set items n j v
  show wpAny _ _ ((seqItemAt l j >>= fun r => pure (r.map (j, ·))) >>= _) _ _ s
  refine wpAny_bind (wpAny_bind (wpAny_seqItemAt ho rfl (wpAny_pure ?_)))
  rw [hx']
  show wpAny _ _ (setSeqItemAt l j v >>= _) _ _ s
  have hfin : (s.heap.update l (Obj.mapSeq (·.setIfInBounds j v))).PlainList l (items.setIfInBounds j v) :=
    ⟨n', by rw [Heap.get?_update_self _ ho (by rw [hm]; rfl), hm]⟩
  refine wpAny_bind (wpAny_setSeqItemAt ho rfl ?_)
  first
    | exact wpAny_bind (wpAny_pure (wpAny_pure ⟨.none, rfl, wpAny_pure (hQ _ hfin (Heap.SameBut.update ..))⟩))
    | exact wpAny_pure ⟨.none, rfl, wpAny_pure (hQ _ hfin (Heap.SameBut.update ..))⟩

open Classical in
theorem store_ok {o k v : AV} {vo vk vv : Value} (hu : A.units + 30 < cLine) (e : storeItem σ o k v = some σ') (S0 : SR prog w h₀ s.heap W σ) (ro : RV h₀ s.heap W o vo) (rk : RV h₀ s.heap W k vk) (rv : RV h₀ s.heap W v vv) (E : Value → Shared → Prop) (Q : Unit → Shared → Prop)
    (q : ∀ h' tk, Stp NoF s.heap W σ h' W σ' → SR prog w h₀ h' W σ' → Q () { s with heap := h', toks := tk }) : wpAny (model prog w) A (setItem vo vk vv) Q E s := by
  unfold storeItem at e
  split at e <;> (try (cases e; done))
  rename_i i
  obtain ⟨a, rfl, ea⟩ := ro.ref_inv
  split at e <;> (try (cases e; done))
  rename_i c ec
  have rc := S0.cell i a c ea ec
  split at e <;> (try (cases e; done))
  · rename_i xs hb
    rw [hb] at rc
    obtain ⟨vs, hl, rs⟩ := rc
    split at e <;> (try (cases e; done))
    split at e <;> (try (cases e; done))
    rename_i n
    split at e <;> (try (cases e; done))
    rename_i hn hs
    cases e
    cases rk
    have hlt : n < lenN xs := Nat.le_of_ble_eq_true hn
    rw [lenN_eq] at hlt
    have hz := small_sz hs
    have hlen := rs.length
    have hln : vs.toList.length = vs.size := Array.length_toList
    refine setPlain hl (by rw [Int.ofNat_eq_natCast]; omega) (by rw [Int.ofNat_eq_natCast]; omega) (by rw [Int.ofNat_eq_natCast]; omega) fun h' hl' hs' => ?_
    replace hl' : h'.PlainList a (vs.setIfInBounds n vv) := hl'
    obtain ⟨m, ho⟩ := id hl
    have hrv : RVs h₀ h' W (setNth xs n v) (vs.setIfInBounds n vv).toList := by
      rw [Array.toList_setIfInBounds]
      exact (RVs.put hs' ho rfl rs).setNth (RV.put hs' ho rfl rv)
    obtain ⟨R', S⟩ := S0.put ea ec hs' (b := .list (setNth xs n v)) ⟨_, hl', hrv⟩
    exact q h' s.toks S R'
  · rename_i es hb
    rw [hb] at rc
    split at e <;> (try (cases e; done))
    rename_i hk
    split at e <;> (try (cases e; done))
    rename_i hs
    obtain ⟨es', e1, e⟩ := Option.bind_eq_some_iff.mp e
    cases e
    have hz := small_sz hs
    obtain ⟨ob, _, _, ho, _, _, hdat⟩ := DS.noDict rc
    have so : Mine.soft ob = true := soft_dict hdat
    rcases keyFits_ok hk with ⟨x, rfl⟩ | ⟨xs, rfl, hd⟩
    · obtain ⟨kvs, hm, hks, rvs⟩ := DS.of hk rc
      cases rk
      have hn : (kvs.map (·.1)).Nodup := by obtain ⟨_, _, _, _, _, _, _, _, hn⟩ := hm; exact hn
      have hlen : es.length = kvs.length := by simpa using congrArg List.length hks
      refine wpAny_setItem_pairs (knd := PySem.strKind prog w) (k := x) (strKind_is prog w x _) hm (fun h' hm' hs' => ?_) (by rw [sizeLine_eq]; omega)
      obtain ⟨g1, g2⟩ := dPut_S rv hks rvs hn e1
      obtain ⟨R', S⟩ := S0.put ea ec hs' (b := .dict es') (.inl ⟨_, hm', g1, RVs.put hs' ho so g2⟩)
      exact q h' _ S R'
    · obtain ⟨ys, hm, hks, rvs⟩ := DD.of hk rc
      obtain ⟨a', vs, rfl, ht, rs'⟩ := rk.tup_inv
      have hn : (ys.map (·.1)).Nodup := by obtain ⟨_, _, _, _, _, _, _, _, hn⟩ := hm; exact hn
      have hlen : es.length = ys.length := by simpa using congrArg List.length hks
      have hdd := DD.dat (es := es) hm
      refine wpAny_setItem_heap (knd := datKind prog w) (k := .tup xs) (xs := ys) (by show A.units + 1 + 10 < cLine; omega) ⟨⟨xs, rfl⟩, hd, RV.dat 8 hd rk⟩ hm (fun h' hm' hs' => ?_) (by rw [sizeLine_eq]; omega)
      obtain ⟨g1, g2⟩ := dPut_D (a := a') hd rv hks hdd rvs hn e1
      obtain ⟨R', S⟩ := S0.put ea ec hs' (b := .dict es') (.inr ⟨_, hm', g1, RVs.put hs' ho so g2⟩)
      exact q h' _ S R'

-- the order of distinct names
theorem setAll_lk : ∀ {xs : List Str} {vs : List AV} {ρ ρ' : Rho}, xs.Nodup → setAll sc ρ xs vs = some ρ' → ∀ y, lk ρ' y = ((xs.zip vs).lookup y).or (lk ρ y)
  | [], vs, ρ, ρ', _, e, y => by
    cases vs with
    | nil => cases e; simp
    | cons _ _ => simp [setAll] at e
  | x :: xs, vs, ρ, ρ', hn, e, y => by
    cases vs with
    | nil => simp [setAll] at e
    | cons v vs =>
      unfold setAll at e
      simp only at e
      split at e <;> (try (cases e; done))
      rw [List.nodup_cons] at hn
      rw [setAll_lk hn.2 e y, lk_setR, List.zip_cons_cons, List.lookup_cons]
      by_cases q : y = x
      · subst q
        have : (xs.zip vs).lookup y = none := by
          have go : ∀ (xs : List Str) (vs : List AV), y ∉ xs → (xs.zip vs).lookup y = none := by
            intro xs
            induction xs with
            | nil => intro vs _; rfl
            | cons a xs ih =>
              intro vs h
              cases vs with
              | nil => rfl
              | cons v vs =>
                rw [List.zip_cons_cons, List.lookup_cons]
                have hne : (y == a) = false := by simpa using fun e : y = a => h (e ▸ .head _)
                rw [hne]
                exact ih vs fun m => h (.tail _ m)
          exact go xs vs hn.1
        simp [this]
      · have hne : (y == x) = false := by simpa using q
        rw [hne, if_neg q]
theorem setAll_local : ∀ {xs : List Str} {vs : List AV} {ρ ρ' : Rho}, setAll sc ρ xs vs = some ρ' → xs.length = vs.length ∧ ∀ x ∈ xs, isLocal sc x = true
  | [], vs, ρ, ρ', e => by
    cases vs with
    | nil => exact ⟨rfl, fun x m => by cases m⟩
    | cons _ _ => simp [setAll] at e
  | x :: xs, vs, ρ, ρ', e => by
    cases vs with
    | nil => simp [setAll] at e
    | cons v vs =>
      unfold setAll at e
      simp only at e
      split at e <;> (try (cases e; done))
      rename_i hl
      obtain ⟨h1, h2⟩ := setAll_local e
      refine ⟨by simp [h1], fun y m => ?_⟩
      rcases List.mem_cons.mp m with e | m
      · rw [e]; exact hl
      · exact h2 y m
theorem setAll_some : ∀ {xs : List Str} {vs : List AV} (ρ : Rho), xs.length = vs.length → (∀ x ∈ xs, isLocal sc x = true) → ∃ ρ', setAll sc ρ xs vs = some ρ'
  | [], vs, ρ, hl, _ => by
    cases vs with
    | nil => exact ⟨ρ, rfl⟩
    | cons _ _ => cases hl
  | x :: xs, vs, ρ, hl, h => by
    cases vs with
    | nil => cases hl
    | cons v vs =>
      unfold setAll
      simp only [h x (.head _)]
      exact setAll_some _ (by simpa using hl) fun y m => h y (.tail _ m)
theorem zip_lk_iff {xs : List Str} (hn : xs.Nodup) {vs : List AV} {y : Str} {v : AV} : (xs.zip vs).lookup y = some v ↔ ∃ i : Nat, xs[i]? = some y ∧ vs[i]? = some v := by
  induction xs generalizing vs with
  | nil => simp
  | cons x xs ih =>
    cases vs with
    | nil => simp
    | cons u vs =>
      rw [List.nodup_cons] at hn
      rw [List.zip_cons_cons, List.lookup_cons]
      by_cases q : y = x
      · subst q
        simp only [beq_self_eq_true]
        constructor
        · intro e; cases e; exact ⟨0, rfl, rfl⟩
        · rintro ⟨i, h1, h2⟩
          cases i with
          | zero => simp at h2; rw [h2]
          | succ i => simp at h1; exact absurd (List.mem_of_getElem? h1) hn.1
      · have hne : (y == x) = false := by simpa using q
        rw [hne]
        simp only
        rw [ih hn.2]
        constructor
        · rintro ⟨i, h1, h2⟩; exact ⟨i + 1, by simpa using h1, by simpa using h2⟩
        · rintro ⟨i, h1, h2⟩
          cases i with
          | zero => simp at h1; exact absurd h1.symm q
          | succ i => exact ⟨i, by simpa using h1, by simpa using h2⟩
theorem setAll_rev {xs : List Str} {vs : List AV} (hn : xs.Nodup) (e : setAll sc ρ xs vs = some ρ') : ∃ ρ'', setAll sc ρ xs.reverse vs.reverse = some ρ'' ∧ ∀ y, lk ρ'' y = lk ρ' y := by
  obtain ⟨hl, hloc⟩ := setAll_local e
  obtain ⟨ρ'', e''⟩ := setAll_some (sc := sc) (xs := xs.reverse) (vs := vs.reverse) ρ (by simpa using hl) fun x m => hloc x (List.mem_reverse.mp m)
  have hn' : xs.reverse.Nodup := (List.Perm.nodup_iff (List.reverse_perm xs)).mpr hn
  refine ⟨ρ'', e'', fun y => ?_⟩
  rw [setAll_lk hn' e'' y, setAll_lk hn e y]
  have : (xs.reverse.zip vs.reverse).lookup y = (xs.zip vs).lookup y := by
    refine Option.ext fun v => ?_
    rw [zip_lk_iff hn', zip_lk_iff hn]
    have go : ∀ {i : Nat}, xs.reverse[i]? = some y ∧ vs.reverse[i]? = some v → ∃ j, xs[j]? = some y ∧ vs[j]? = some v := fun {i} hh => by
      have hi : i < xs.length := by
        have := (List.getElem?_eq_some_iff.mp hh.1).1
        simpa using this
      rw [List.getElem?_reverse hi, List.getElem?_reverse (by omega)] at hh
      exact ⟨xs.length - 1 - i, hh.1, by rw [hl]; exact hh.2⟩
    constructor
    · rintro ⟨i, hh⟩; exact go hh
    · rintro ⟨i, h1, h2⟩
      have hi : i < xs.length := (List.getElem?_eq_some_iff.mp h1).1
      refine ⟨xs.length - 1 - i, ?_, ?_⟩
      · rw [List.getElem?_reverse (by omega)]
        have : xs.length - 1 - (xs.length - 1 - i) = i := by omega
        rw [this]; exact h1
      · rw [List.getElem?_reverse (by omega)]
        have : vs.length - 1 - (xs.length - 1 - i) = i := by omega
        rw [this]; exact h2
  rw [this]
end
end Mine
end
section
open PySem PySem.W PySem.SeqAt PyProof.Rows
set_option maxRecDepth 100000
set_option linter.unusedVariables false
namespace Mine
section
variable {prog : Program} {w : World} {K : Frag} {h₀ h h' : Heap} {W W' : List Addr} {σ σ' : Sto} {s : Shared} {A : Around} {F : Addr → Prop} {it : It} {I : Addr} {env : Env} {sc : List (Str × NameKind)} {c : Cx} {ρ ρ' : Rho} {R : Rec}

theorem ev_step (B : Bs prog w K h₀) (KR : RecS prog w h₀ R) : EvS prog w h₀ (evStep K R) := by
  intro c ρ σ e v σ' he A env s W hA f S0
  cases e with
  | Constant k n p =>
    obtain ⟨u, h1, h2⟩ := Option.bind_eq_some_iff.mp he
    cases h2
    exact Gives.pure S0 fun E Q q => evConst_ok h1 E Q q
  | Name x p =>
    obtain ⟨u, h1, h2⟩ := Option.bind_eq_some_iff.mp he
    cases h2
    exact Gives.pure S0 fun E Q q => evName_ok B h1 f S0 E Q fun val r => q s.toks val r
  | BoolOp op vs p =>
    have : eval (.BoolOp op vs p) env = boolOp p op (evalEach vs env) := rfl
    rw [this]
    exact boolVals_ok KR.ev hA he f S0
  | BinOp l op r p => exact ev_BinOp KR.ev he hA f S0
  | UnaryOp op x p => exact ev_UnaryOp KR.ev he hA f S0
  | IfExp t a b p => exact ev_IfExp KR.ev KR.tr he hA f S0
  | Dict ks vs p => exact ev_Dict KR.ev he hA f S0
  | List es p => exact ev_List KR.ev he hA f S0
  | Tuple es k p => exact ev_Tuple KR.ev he hA f S0
  | ListComp elt gens scope p => exact ev_ListComp B.sys KR he hA f S0
  | Compare l ops rs p => exact ev_Compare B KR.ev he hA f S0
  | Subscript o i p => exact ev_Subscript B KR.ev he hA f S0
  | Call g args kws p =>
    cases kws with
    | cons _ _ => simp [evStep] at he
    | nil =>
      by_cases hf : ∃ o n p, g = .Attribute o n p
      · obtain ⟨o, n, p', rfl⟩ := hf
        cases o with
        | Name x p1 => exact ev_Method B KR.ev he hA f S0
        | _ => simp [evStep] at he
      · refine ev_Plain B KR.ev KR.ex (fun o n p q => hf ⟨o, n, p, q⟩) ?_ hA f S0
        cases g <;> first | exact he | exact absurd ⟨_, _, _, rfl⟩ hf
  | _ => simp [evStep] at he

theorem sw_ok {value t : Expr} {line : Nat} (h1 : ∀ a b c d, value ≠ .SetComp a b c d) (h2 : ∀ a b c d e, value ≠ .DictComp a b c d e) :
    ∃ b, swapsWith value (some t) line env = pure b ∧ (b = true → (∃ elt gens scope p, value = .ListComp elt gens scope p) ∧ ∃ x px, t = .Name x px) := by
  cases value <;> first
    | exact ⟨false, rfl, nofun⟩
    | exact absurd rfl (h1 _ _ _ _)
    | exact absurd rfl (h2 _ _ _ _ _)
    | (cases t <;> first
        | exact ⟨false, rfl, nofun⟩
        | exact ⟨_, rfl, fun _ => ⟨⟨_, _, _, _, rfl⟩, _, _, rfl⟩⟩)

theorem filter_names {es : List Expr} {g : Expr → Option Str} : ∀ {xs : List Str}, namesOf es = some xs → (∀ x p u, g (.Name x p) = some u → u = x) → (es.filterMap g).length = es.length → es.filterMap g = xs := by
  induction es with
  | nil => intro xs e _ _; cases e; rfl
  | cons y es ih =>
    intro xs e hg hl
    unfold namesOf at e
    split at e <;> (try (cases e; done))
    rename_i x p
    obtain ⟨r, e1, e⟩ := Option.bind_eq_some_iff.mp e
    cases e
    rw [List.filterMap_cons] at hl ⊢
    cases q : g (.Name x p) with
    | none =>
      rw [q] at hl
      have := List.length_filterMap_le g es
      simp only [List.length_cons] at hl
      omega
    | some u =>
      rw [q] at hl
      simp only [List.length_cons, Nat.add_right_cancel_iff] at hl
      rw [hg x p u q, ih e1 hg hl]

theorem swapped_ok {es : List Expr} {k : Nat} {p : Pos} {value : Expr} {xs : List Str} (hn : namesOf es = some xs) (hc : tupConst [.Tuple es k p] value = false) :
    ∃ o, swappedStores [.Tuple es k p] value env = pure o ∧ (o = none ∨ o = some xs) := by
  cases value <;> first
    | exact ⟨none, rfl, .inl rfl⟩
    | skip
  rename_i vs k2 p2
  have hc' : vs.all (constantsAlone 8) = false := hc
  unfold swappedStores
  simp only
  split
  · exact ⟨none, rfl, .inl rfl⟩
  · split
    · exact ⟨none, rfl, .inl rfl⟩
    · split
      · exact ⟨none, rfl, .inl rfl⟩
      · rename_i hlen
        split
        · exact ⟨none, rfl, .inl rfl⟩
        · rw [hc']
          simp only [Bool.false_eq_true, if_false]
          refine ⟨_, rfl, .inr ?_⟩
          congr 1
          simp only [Bool.or_eq_true, bne_iff_ne, ne_eq, not_or, Decidable.not_not] at hlen
          refine filter_names hn (fun x q u e => ?_) hlen.1
          simp only at e
          split at e
          · cases e; rfl
          · cases e

theorem RVs.rev {h : Heap} : ∀ {xs : List AV} {vs : List Value}, RVs h₀ h W xs vs → RVs h₀ h W xs.reverse vs.reverse
  | _, _, .nil => .nil
  | _, _, .cons r rs => by
    rw [List.reverse_cons, List.reverse_cons]
    exact (RVs.rev rs).append (.cons r .nil)

theorem assign_ok {t value : Expr} {pos : Pos} {v : AV} (b0 : Bs0 h₀) (KR : RecS prog w h₀ R) (h1 : ∀ a b c d, value ≠ .SetComp a b c d) (h2 : ∀ a b c d e, value ≠ .DictComp a b c d e) (hc : tupConst [t] value = false)
    (hv : Gives prog w h₀ NoF W σ s A (eval value env) v σ') (hlc : ∀ elt gens scope p, value = .ListComp elt gens scope p → lcStep R c ρ σ value gens scope = some (v, σ')) (hl : letTo c.sc ρ t v = some ρ')
    (hA : AOk A c.d) (f : FrOk h₀ env c.sc ρ s.heap W) (S0 : SR prog w h₀ s.heap W σ) : GivesF prog w h₀ env c.sc W σ s A (exec (.Assign [t] value pos) env) .next ρ' σ' := by
  intro E Q q
  rw [PyProof.Rows.exec_Assign]
  refine wpAny_bind (wpAny_standAt ?_)
  have hsw : swapsWithSole [t] value pos.line env = swapsWith value (some t) pos.line env := rfl
  obtain ⟨b, hb, hb'⟩ := sw_ok (env := env) (t := t) (line := pos.line) h1 h2
  rw [hsw, hb]
  refine wpAny_bind (wpAny_pure ?_)
  cases b with
  | true =>
    obtain ⟨⟨elt, gens, scope, p, rfl⟩, x, px, rfl⟩ := hb' rfl
    simp only [if_true]
    show wpAny (model prog w) A (evalThenUse (.ListComp elt gens scope p) env (assign (.Name x px) env) >>= fun _ => pure .next) Q E s
    exact wpAny_bind (use_ListComp b0 KR (hlc _ _ _ _ rfl) hl hA f S0 _ _ fun h' tk W' S R' f' => wpAny_pure (q h' tk W' .next S R' f' trivial))
  | false =>
    simp only [Bool.false_eq_true, if_false]
    refine wpAny_bind (hv _ _ fun h1 tk1 W1 val S1 R1 rv => ?_)
    have f1 := f.stp S0 S1
    have plain : wpAny (model prog w) A (assignStores env val none ((assignEach [t] env).map (·.2))) Q E { s with heap := h1, toks := tk1 } := by
      have he : (assignEach [t] env).map (·.2) = [assign t env] := by
        unfold letTo at hl
        cases t <;> first | rfl | (simp at hl)
      rw [he]
      show wpAny (model prog w) A (assign t env val >>= fun _ => pure .next) Q E { s with heap := h1, toks := tk1 }
      refine wpAny_bind (letTo_ok (s := { s with heap := h1, toks := tk1 }) hA.hd hl R1 f1 rv _ _ fun h2 tk2 S2 R2 f2 => wpAny_pure ?_)
      exact q h2 tk2 W1 .next (S1.of0.trans (S2.weak fun b p => frC_sub p)) R2 f2 trivial
    unfold letTo at hl
    split at hl
    · rename_i x px
      have hn : swappedStores [.Name x px] value env = pure none := by
        unfold swappedStores
        cases value <;> rfl
      rw [hn]
      exact wpAny_bind (wpAny_pure plain)
    · rename_i es k tp
      obtain ⟨xs, e1, hl⟩ := Option.bind_eq_some_iff.mp hl
      obtain ⟨o, ho, ho'⟩ := swapped_ok (env := env) e1 hc
      rw [ho]
      refine wpAny_bind (wpAny_pure ?_)
      rcases ho' with rfl | rfl
      · exact plain
      · split at hl <;> (try (cases hl; done))
        rename_i hnd
        have hv : ∃ vs, v = .tup vs := by
          cases v <;> first | exact ⟨_, rfl⟩ | (simp at hl)
        obtain ⟨vs, rfl⟩ := hv
        simp only at hl
        obtain ⟨a, us, rfl, ht, rs⟩ := rv.tup_inv
        have hnod := nodupS_iff hnd
        have hlen := (setAll_local hl).1
        have hlu : xs.length = us.size := by rw [hlen, rs.length, Array.length_toList]
        obtain ⟨ρ2, e2, hlk⟩ := setAll_rev hnod hl
        show wpAny (model prog w) A (rule "assign.swapped-stores" >>= fun _ => unpackItems (.ref a) xs.length none >>= fun items => assignInOrder (xs.reverse.map fun n => bindName env n) items.reverse >>= fun _ => pure .next) Q E { s with heap := h1, toks := tk1 }
        refine wpAny_bind (wpAny_rule (wpAny_bind ?_))
        rw [hlu]
        refine wpAny_unpackItems_tuple (s := { s with heap := h1, toks := tk1 }) hA.hd ht fun h2 hk => ?_
        have k0 : ∀ b o, h1.get? b = some o → h2.get? b = some o := fun b o e => hk b o (Nat.ne_of_lt (Heap.lt_size e)) e
        obtain ⟨R2, S2⟩ := R1.grow0 k0
        refine wpAny_bind (setAll_ok (s := { s with heap := h2, toks := tk1 }) e2 R2 (f1.stp R1 S2) (RVs.stp S2 R1 (niNo _) rs).rev (by simp) (fun j t' x' g1 g2 A E Q v s hw => ?_) _ _ fun h3 tk3 S3 R3 f3 => wpAny_pure ?_)
        · rw [List.getElem?_map, g2] at g1
          cases g1
          exact hw
        · exact q h3 tk3 W1 .next ((S1.trans S2).of0.trans (S3.weak fun b p => frC_sub p)) R3 (f3.congr fun y => (hlk y).symm) trivial
    · cases hl

theorem load_ok {x : Str} {v : AV} (hl : isLocal sc x = true) (e : lk ρ x = some v) (f : FrOk h₀ env sc ρ s.heap W) (E Q : Value → Shared → Prop) (q : ∀ val, RV h₀ s.heap W v val → Q val s) : wpAny (model prog w) A (loadName env x) Q E s := by
  unfold isLocal at hl
  split at hl
  · rename_i hk
    obtain ⟨m, hn, hm⟩ := f.ns
    obtain ⟨val, h1, h2⟩ := hm x v e (f.lo x hk)
    exact wpAny_loadName_local f.kind (f.lo x hk) hn h1 (q val h2)
  · rename_i hk
    obtain ⟨hk', _⟩ := f.ce x hk
    obtain ⟨_, cc, val, h2, h3, h4⟩ := f.cell x v e (by rw [hk']; decide)
    exact wpAny_loadName_cell f.kind hk' h2 h3 (q val h4)
  · cases hl
end
end Mine
end
section
open PySem PySem.W PySem.SeqAt PyProof.Rows
set_option maxRecDepth 100000
set_option linter.unusedVariables false
namespace Mine
section
variable {prog : Program} {w : World} {K : Frag} {h₀ h h' : Heap} {W W' : List Addr} {σ σ' : Sto} {s : Shared} {A : Around} {F : Addr → Prop} {it : It} {I : Addr} {env : Env} {sc : List (Str × NameKind)} {c : Cx} {ρ ρ' : Rho} {R : Rec}

theorem ex_Subscript (b0 : Bs0 h₀) (KR : RecS prog w h₀ R) {o i e : Expr} {p pos : Pos} {f : Fl}
    (he : ((R.ev c ρ σ e).bind fun v => (R.ev c ρ v.2 o).bind fun x => (R.ev c ρ x.2 i).bind fun k => (storeItem k.2 x.1 k.1 v.1).bind fun σ' => some (Fl.next, ρ, σ')) = some (f, ρ', σ'))
    (hA : AOk A c.d) (fr : FrOk h₀ env c.sc ρ s.heap W) (S0 : SR prog w h₀ s.heap W σ) : GivesF prog w h₀ env c.sc W σ s A (exec (.Assign [.Subscript o i p] e pos) env) f ρ' σ' := by
  obtain ⟨⟨v, σ1⟩, e1, he⟩ := Option.bind_eq_some_iff.mp he
  obtain ⟨⟨x, σ2⟩, e2, he⟩ := Option.bind_eq_some_iff.mp he
  obtain ⟨⟨k, σ3⟩, e3, he⟩ := Option.bind_eq_some_iff.mp he
  obtain ⟨σ4, e4, he⟩ := Option.bind_eq_some_iff.mp he
  cases he
  intro E Q q
  refine wpAny_Assign_Subscript ?_ (by cases e <;> rfl)
  refine KR.ev c ρ σ e v σ1 e1 A env s W hA fr S0 _ _ fun h1 tk1 W1 vv S1 R1 rv => ?_
  have f1 := fr.stp S0 S1
  refine KR.ev c ρ σ1 o x σ2 e2 A env { s with heap := h1, toks := tk1 } W1 hA f1 R1 _ _ fun h2 tk2 W2 vo S2 R2 ro => ?_
  have f2 := f1.stp R1 S2
  refine KR.ev c ρ σ2 i k σ3 e3 A env { s with heap := h2, toks := tk2 } W2 hA f2 R2 _ _ fun h3 tk3 W3 vk S3 R3 rk => ?_
  have f3 := f2.stp R2 S3
  refine store_ok (s := { s with heap := h3, toks := tk3 }) (by have := hA.un; omega) e4 R3 (RV.stp S3 R2 (niNo _) ro) rk (RV.stp S3 R2 (niNo _) (RV.stp S2 R1 (niNo _) rv)) _ _ fun h4 tk4 S4 R4 => ?_
  exact q h4 tk4 W3 .next (((S1.trans S2).trans S3).trans S4).of0 R4 (f3.stp R3 S4) trivial

theorem ex_For (b0 : Bs0 h₀) (KR : RecS prog w h₀ R) {t i : Expr} {b : List Stmt} {pos : Pos} {f : Fl} (hns : noSet i = true)
    (he : ((R.ev c ρ σ i).bind fun x => (iter x.2 x.1).bind fun it => R.fo c ρ x.2 t it b) = some (f, ρ', σ'))
    (hA : AOk A c.d) (fr : FrOk h₀ env c.sc ρ s.heap W) (S0 : SR prog w h₀ s.heap W σ) : GivesF prog w h₀ env c.sc W σ s A (exec (.For t i b [] pos) env) f ρ' σ' := by
  obtain ⟨⟨x, σ1⟩, e1, he⟩ := Option.bind_eq_some_iff.mp he
  obtain ⟨it, e2, he⟩ := Option.bind_eq_some_iff.mp he
  intro E Q q
  refine wpAny_For ?_ (noSet_fold hns)
  refine KR.ev c ρ σ i x σ1 e1 A env s W hA fr S0 _ _ fun h1 tk1 W1 vx S1 R1 rx => ?_
  have f1 := fr.stp S0 S1
  refine iter_ok b0 (s := { s with heap := h1, toks := tk1 }) e2 R1 rx _ _ fun h2 I hI R2 S2 kI => ?_
  have f2 := f1.stp R1 S2
  have hIW : I ∉ W1 := fun m => by
    obtain ⟨o, e, _⟩ := R1.obj m
    rw [hI] at e; cases e
  have hIf : ¬ frF env I := fun p => by
    obtain ⟨o, e⟩ := f1.here p
    rw [hI] at e; cases e
  have hI0 : h₀.get? I = none := by
    cases q : h₀.get? I with
    | none => rfl
    | some o => rw [R1.old _ _ q] at hI; cases hI
  refine KR.fo c ρ σ1 t it b f ρ' σ' he A env { s with heap := h2, toks := tk1 } W1 I hA f2 R2 kI hIW hIf hI0 _ fun h3 tk3 W3 fl L3 R3 f3 hfl => ?_
  exact q h3 tk3 W3 fl (S1.of0.trans (LoopEnd.out R1 S2.of0 hI L3)) R3 f3 hfl

theorem exOne_ok (b0 : Bs0 h₀) (KR : RecS prog w h₀ R) {st : Stmt} {f : Fl} (he : exOne R c ρ σ st = some (f, ρ', σ')) (hA : AOk A c.d) (fr : FrOk h₀ env c.sc ρ s.heap W) (S0 : SR prog w h₀ s.heap W σ) :
    GivesF prog w h₀ env c.sc W σ s A (exec st env) f ρ' σ' := by
  cases st with
  | Assign ts e pos =>
    cases ts with
    | nil => simp [exOne] at he
    | cons t r =>
      cases r with
      | cons _ _ => simp [exOne] at he
      | nil =>
        by_cases hsub : ∃ o i p, t = .Subscript o i p
        · obtain ⟨o, i, p, rfl⟩ := hsub
          exact ex_Subscript b0 KR he hA fr S0
        · have he' : asgStep R c ρ σ t e = some (f, ρ', σ') := by
            cases t <;> first
              | exact he
              | exact absurd ⟨_, _, _, rfl⟩ hsub
          unfold asgStep at he'
          split at he' <;> (try (cases he'; done))
          rename_i hc
          split at he' <;> (try (cases he'; done))
          · rename_i elt gens scope p
            obtain ⟨⟨v, σ1⟩, e1, he'⟩ := Option.bind_eq_some_iff.mp he'
            obtain ⟨ρ1, e2, he'⟩ := Option.bind_eq_some_iff.mp he'
            cases he'
            exact assign_ok b0 KR nofun nofun hc (ev_ListComp b0 KR e1 hA fr S0) (fun elt gens scope p q => by cases q; exact e1) e2 hA fr S0
          · rename_i n1 n2 n3
            obtain ⟨⟨v, σ1⟩, e1, he'⟩ := Option.bind_eq_some_iff.mp he'
            obtain ⟨ρ1, e2, he'⟩ := Option.bind_eq_some_iff.mp he'
            cases he'
            exact assign_ok b0 KR (fun a b c d q => n2 a b c d q) (fun a b c d e q => n3 a b c d e q) hc (KR.ev c ρ σ e v _ e1 A env s W hA fr S0) (fun elt gens scope p q => absurd q (n1 elt gens scope p)) e2 hA fr S0
  | AugAssign t op e pos =>
    cases t with
    | Name x p =>
      cases op with
      | Add =>
        simp only [exOne] at he
        obtain ⟨a, e1, he⟩ := Option.bind_eq_some_iff.mp he
        obtain ⟨⟨b, σ1⟩, e2, he⟩ := Option.bind_eq_some_iff.mp he
        simp only at he
        split at he <;> (try (cases he; done))
        rename_i i j
        split at he <;> (try (cases he; done))
        rename_i hl
        cases he
        intro E Q q
        refine wpAny_AugAssign_Name (load_ok hl e1 fr _ _ fun va ra => ?_)
        refine KR.ev c ρ σ e _ _ e2 A env s W hA fr S0 _ _ fun h1 tk1 W1 vb S1 R1 rb => ?_
        cases ra; cases rb
        refine P.iadd_int ?_
        refine storeN_ok (s := { s with heap := h1, toks := tk1 + 1 }) hl R1 (fr.stp S0 S1) (.int _ _) _ _ fun h2 tk2 S2 R2 f2 => ?_
        exact q h2 tk2 W1 .next (S1.of0.trans (S2.weak fun b p => frC_sub p)) R2 f2 trivial
      | _ => simp [exOne] at he
    | _ => simp [exOne] at he
  | Expr e pos =>
    cases e with
    | Call g args kws p =>
      simp only [exOne] at he
      obtain ⟨⟨v, σ1⟩, e1, he⟩ := Option.bind_eq_some_iff.mp he
      simp only at he
      split at he <;> (try (cases he; done))
      cases he
      intro E Q q
      refine wpAny_Expr (KR.ev c ρ σ _ _ _ e1 A env s W hA fr S0 _ _ fun h1 tk1 W1 vb S1 R1 rb => ?_) ?_ rfl
      · cases rb
        exact q h1 tk1 W1 .next S1.of0 R1 (fr.stp S0 S1) trivial
      · unfold interactive
        rw [fr.kind]; rfl
    | _ => simp [exOne] at he
  | Return e pos =>
    cases e with
    | some e =>
      simp only [exOne] at he
      obtain ⟨⟨v, σ1⟩, e1, he⟩ := Option.bind_eq_some_iff.mp he
      cases he
      intro E Q q
      exact wpAny_Return_some (KR.ev c ρ σ _ _ _ e1 A env s W hA fr S0 _ _ fun h1 tk1 W1 vb S1 R1 rb => q h1 tk1 W1 (.ret vb) S1.of0 R1 (fr.stp S0 S1) rb)
    | none =>
      simp only [exOne] at he
      cases he
      intro E Q q
      exact wpAny_Return_none (q s.heap s.toks W (.ret .none) (Stp.refl _ _ _ _) S0 fr .none)
  | If t a b pos =>
    simp only [exOne] at he
    obtain ⟨⟨r, σ1⟩, e1, he⟩ := Option.bind_eq_some_iff.mp he
    intro E Q q
    refine wpAny_If (KR.tr c ρ σ t r σ1 e1 A env s W hA fr S0 _ _ fun h1 tk1 W1 S1 R1 => ?_)
    have f1 := fr.stp S0 S1
    cases r with
    | true => exact KR.ex c ρ σ1 a f ρ' σ' he A env { s with heap := h1, toks := tk1 } W1 hA f1 R1 _ _ fun h2 tk2 W2 fl S2 R2 f2 hfl => q h2 tk2 W2 fl (S1.of0.trans S2) R2 f2 hfl
    | false => exact KR.ex c ρ σ1 b f ρ' σ' he A env { s with heap := h1, toks := tk1 } W1 hA f1 R1 _ _ fun h2 tk2 W2 fl S2 R2 f2 hfl => q h2 tk2 W2 fl (S1.of0.trans S2) R2 f2 hfl
  | While t b e pos =>
    cases e with
    | cons _ _ => simp [exOne] at he
    | nil =>
      simp only [exOne] at he
      intro E Q q
      exact wpAny_While (KR.wh c ρ σ t b f ρ' σ' he A env s W hA fr S0 _ fun h1 tk1 W1 fl S1 R1 f1 hfl => q h1 tk1 W1 fl S1 R1 f1 hfl)
  | For t i b e pos =>
    cases e with
    | cons _ _ => simp [exOne] at he
    | nil =>
      simp only [exOne] at he
      split at he <;> (try (cases he; done))
      rename_i hns
      exact ex_For b0 KR hns he hA fr S0
  | _ => simp [exOne] at he

theorem ex_step (b0 : Bs0 h₀) (KR : RecS prog w h₀ R) : ExS prog w h₀ (exStep R) := by
  intro c ρ σ b
  induction b generalizing ρ σ with
  | nil =>
    intro f ρ' σ' he A env s W hA fr S0 E Q q
    cases he
    exact wpAny_execs_nil (q s.heap s.toks W .next (Stp.refl _ _ _ _) S0 fr trivial)
  | cons st ss ih =>
    intro f ρ' σ' he A env s W hA fr S0 E Q q
    unfold exStep at he
    obtain ⟨⟨fl, ρ1, σ1⟩, e1, he⟩ := Option.bind_eq_some_iff.mp he
    refine wpAny_execs_cons (exOne_ok b0 KR e1 hA fr S0 _ _ fun h1 tk1 W1 flv S1 R1 f1 hfl => ?_)
    cases fl with
    | next =>
      cases flv with
      | next => exact ih ρ1 σ1 f ρ' σ' he A env { s with heap := h1, toks := tk1 } W1 hA f1 R1 _ _ fun h2 tk2 W2 fl2 S2 R2 f2 hfl2 => q h2 tk2 W2 fl2 (S1.trans S2) R2 f2 hfl2
      | _ => exact hfl.elim
    | ret v =>
      cases he
      cases flv with
      | ret val => exact q h1 tk1 W1 (.ret val) S1 R1 f1 hfl
      | _ => exact hfl.elim

theorem rec_ok (B : Bs prog w K h₀) : ∀ n, RecS prog w h₀ (Rec.at K n)
  | 0 => ⟨nofun, nofun, nofun, nofun, nofun, nofun⟩
  | n + 1 =>
    have ih := rec_ok B n
    ⟨ev_step B ih, tr_step B ih.ev ih.tr, ex_step B.sys ih, wh_step ih, fo_step ih, co_step B.sys ih⟩
end
end Mine
end
section
open PySem PySem.W PySem.SeqAt PyProof.Rows
set_option maxRecDepth 100000
set_option linter.unusedVariables false
namespace Mine

-- the checks of the written part
noncomputable def tupB : Frag → Bool
  | [] => true
  | p :: r => match (match p.2.data with
      | .seq _ _ => (match p.2.cls with
        | .type n => n == "tuple"
        | _ => false)
      | _ => true) with
    | true => tupB r
    | false => false
noncomputable def codeB (K : Frag) (cd : Value) (q : Str) : Bool := match cd with
  | .ref c => (match lkA K c with
    | some o => match o.data with
      | .fields vs => match vs.toList with
        | _ :: v :: _ => (match v with
          | .str n _ => sEq n q
          | _ => false)
        | _ => false
      | _ => false
    | none => false)
  | _ => false
noncomputable def noneB {α : Type} : Option α → Bool
  | none => true
  | some _ => false
noncomputable def nilB {α : Type} : List α → Bool
  | [] => true
  | _ :: _ => false
noncomputable def noFree : List (Str × NameKind) → Bool
  | [] => true
  | p :: r => match p.2 with
    | .free => false
    | _ => noFree r
noncomputable def isNoneV : Value → Bool
  | .none => true
  | _ => false
noncomputable def fnB (K : Frag) (fd : FuncData) : Bool :=
  Nat.beq fd.builtins builtinsNs && nilB fd.closure && !fd.scope.isCoroutine && !fd.scope.isGenerator && funKind fd.scope.kind && nilB fd.params.posonlyargs && nilB fd.params.kwonlyargs && noneB fd.params.vararg && noneB fd.params.kwarg &&
  isNoneV fd.defaults && allS (fun x => isLocal fd.scope.names x) (fd.params.args.map (·.arg)) && nodupS (fd.params.args.map (·.arg)) && codeB K fd.code fd.qualname && noFree fd.scope.names
where allS (f : Str → Bool) : List Str → Bool
  | [] => true
  | x :: xs => match f x with
    | true => allS f xs
    | false => false
noncomputable def fnsB (K : Frag) : Frag → Bool
  | [] => true
  | p :: r => match (match p.2.data with
      | .func fd => (match Nat.beq fd.globals mainGlobals with
        | true => fnB K fd
        | false => true)
      | _ => true) with
    | true => fnsB K r
    | false => false

theorem tupB_ok : ∀ {K : Frag} {a : Addr} {o : Obj} {vs : Array Value} {n : Nat}, tupB K = true → lkA K a = some o → o.data = .seq vs n → o.cls = .type "tuple"
  | [], a, o, vs, n, _, e, _ => by cases e
  | p :: r, a, o, vs, n, h, e, hd => by
    unfold tupB at h
    unfold lkA at e
    split at h <;> (try (cases h; done))
    rename_i hp
    split at e
    · cases e
      rw [hd] at hp
      simp only at hp
      split at hp
      · rename_i m hm
        rw [hm]
        have : m = "tuple" := by simpa using hp
        rw [this]
      · cases hp
    · exact tupB_ok h e hd
theorem fnsB_ok {K : Frag} : ∀ {L : Frag} {a : Addr} {o : Obj} {fd : FuncData}, fnsB K L = true → lkA L a = some o → o.data = .func fd → Nat.beq fd.globals mainGlobals = true → fnB K fd = true
  | [], a, o, fd, _, e, _, _ => by cases e
  | p :: r, a, o, fd, h, e, hd, hg => by
    unfold fnsB at h
    unfold lkA at e
    split at h <;> (try (cases h; done))
    rename_i hp
    split at e
    · cases e
      rw [hd] at hp
      simp only [hg] at hp
      exact hp
    · exact fnsB_ok h e hd hg

theorem allS_ok {f : Str → Bool} : ∀ {l : List Str}, fnB.allS f l = true → ∀ x ∈ l, f x = true
  | [], _, x, m => by cases m
  | y :: l, h, x, m => by
    unfold fnB.allS at h
    split at h
    · rename_i hy
      rcases List.mem_cons.mp m with e | m
      · rw [e]; exact hy
      · exact allS_ok h x m
    · cases h
theorem nilB_ok {α : Type} {l : List α} (h : nilB l = true) : l = [] := by
  cases l with
  | nil => rfl
  | cons _ _ => cases h
theorem noneB_ok {α : Type} {l : Option α} (h : noneB l = true) : l = none := by
  cases l with
  | none => rfl
  | some _ => cases h
theorem isNoneV_ok {v : Value} (h : isNoneV v = true) : v = .none := by
  cases v <;> first | rfl | (simp [isNoneV] at h)
theorem noFree_ok : ∀ {l : List (Str × NameKind)}, noFree l = true → ∀ x, kindIn l x ≠ some .free
  | [], _, x => by simp [kindIn]
  | p :: r, h, x => by
    unfold noFree at h
    unfold kindIn
    split at h
    · cases h
    · rename_i hk
      split
      · intro e
        simp only [Option.some.injEq] at e
        exact hk e
      · exact noFree_ok h x

theorem lkE_find {x : Str} : ∀ {es : List DictEntry}, (∀ e ∈ es, ∃ n t, e.key = .str n t) → (es.find? fun e => e.key.isStr x).map (·.val) = lkE es x
  | [], _ => rfl
  | e :: es, h => by
    obtain ⟨n, t, hk⟩ := h e (.head _)
    unfold lkE
    rw [List.find?_cons, hk]
    have hb : (Value.str n t).isStr x = sEq n x := by
      rw [sEq_decide]
      simp only [Value.isStr]
      by_cases q : n = x
      · simp [q]
      · simp [q]
    rw [hb]
    cases q : sEq n x with
    | true => simp [q]
    | false =>
      simp only [q]
      exact lkE_find fun e m => h e (.tail _ m)

theorem bi_vals (b : BI) : bootBuiltins (biName b) = some (biVal b) := by
  cases b <;> decide +kernel
theorem bi_name (b : BI) : biName b ≠ ("__name__" : Str) := by
  cases b <;> decide +kernel

theorem bs_of {prog : Program} {w : World} {K : Frag} {h : Heap} {p : Program} {loose : List Str} {mg mb : Str → Option Value} (X : K.In h) (T : TopRead p loose mg mb h) (c1 : tupB K = true) (c2 : fnsB K K = true)
    (c3 : ∃ o es n, lkA K mainGlobals = some o ∧ o.data = .dict es n) (c4 : ∃ es n, K.lookup rkA = some ⟨.type "dict", none, .dict es n, #[]⟩ ∧ KeysLit w.params es.toList) (c5 : ∃ o, lkA K sysModules = some o) : Bs prog w K h := by
  have get : ∀ {a o}, lkA K a = some o → h.get? a = some o := fun e => X _ _ (by rw [← lkA_eq]; exact e)
  refine ⟨X, T.nolimit, ?_, fun a o vs n e hd => tupB_ok c1 e hd, ⟨mg, T.g, fun x => ?_⟩, ⟨mb, T.b, fun b => (T.builtins _ (bi_name b)).trans (bi_vals b)⟩, fun a x v e => ?_, fun a F e => ?_⟩
  · obtain ⟨o, e⟩ := c5
    exact ⟨o, get e⟩
  · obtain ⟨o, es, n, e, hd⟩ := c3
    obtain ⟨o', es', ep, ho, hd', hs, hf⟩ := T.g
    rw [get e] at ho
    cases ho
    rw [hd] at hd'
    cases hd'
    unfold glob
    rw [e]
    simp only [hd]
    rw [← hf x, ← lkE_find fun e m => hs e (Array.mem_toList_iff.mp m)]
    unfold nsFind findBy
    rw [← Array.find?_toList]
  · obtain ⟨es, n, hl, hk⟩ := c4
    unfold gdGet at e
    split at e <;> (try (cases e; done))
    rename_i ha
    have ha' := Nat.eq_of_beq_eq_true ha
    subst ha'
    rw [lkA_eq, hl] at e
    simp only at e
    obtain ⟨u, e1, e⟩ := Option.bind_eq_some_iff.mp e
    split at e <;> (try (cases e; done))
    rename_i i t
    cases e
    refine ⟨_, i, t, rfl, mapOf_K X hl hk, ?_⟩
    have hs : ∀ e ∈ es.toList, ∃ n t, e.key = .str n t := fun e m => by
      obtain ⟨x, t, h1, _⟩ := hk.all e m
      exact ⟨x, t, h1⟩
    rw [← lkE_find hs] at e1
    unfold findBy
    rw [← Array.find?_toList]
    have q : (fun d : DictEntry => (PySem.strKind prog w).is x d.key) = fun d => d.key.isStr x := funext fun d => (isStr_of x d.key).symm
    have q2 : (fun d : DictEntry => Value.isStrOf x d.key) = fun d => d.key.isStr x := funext fun d => (isStr_of x d.key).symm
    first
      | (rw [q2]; exact e1)
      | (rw [q]; exact e1)
  · unfold fnAt at e
    split at e <;> (try (cases e; done))
    rename_i o ho
    split at e <;> (try (cases e; done))
    rename_i fd hd
    split at e <;> (try (cases e; done))
    rename_i hg
    split at e <;> (try (cases e; done))
    rename_i body hb
    cases e
    have c := fnsB_ok c2 ho hd hg
    unfold fnB at c
    simp only [Bool.and_eq_true, Bool.not_eq_true'] at c
    obtain ⟨⟨⟨⟨⟨⟨⟨⟨⟨⟨⟨⟨⟨d1, d2⟩, d3⟩, d4⟩, d5⟩, d6⟩, d7⟩, d8⟩, d9⟩, d10⟩, d11⟩, d12⟩, d13⟩, d14⟩ := c
    refine ⟨o, fd, ⟨get ho, hd, Nat.eq_of_beq_eq_true hg, Nat.eq_of_beq_eq_true d1, nilB_ok d2, d3, d4, funKind_eq d5, hb, rfl, rfl, nilB_ok d6, nilB_ok d7, noneB_ok d8, noneB_ok d9, isNoneV_ok d10, allS_ok d11, d12, ?_, noFree_ok d14⟩⟩
    unfold codeB at d13
    split at d13 <;> (try (cases d13; done))
    rename_i cc hcc
    split at d13 <;> (try (cases d13; done))
    rename_i oc hoc
    split at d13 <;> (try (cases d13; done))
    rename_i vs hvs
    split at d13 <;> (try (cases d13; done))
    rename_i v0 v1 vr hl
    split at d13 <;> (try (cases d13; done))
    rename_i n t
    have hn := sEq_iff.mp d13
    subst hn
    exact ⟨cc, oc, vs, t, hcc, get hoc, hvs, by rw [← Array.getElem?_toList, hl]; rfl⟩
end Mine
end
section
open PySem PySem.W PySem.SeqAt PyProof.Rows
set_option maxRecDepth 100000
set_option linter.unusedVariables false
namespace Mine

noncomputable def lawA : Nat := 496
noncomputable def nForm : Str := ⟨#[102, 111, 114, 109]⟩
noncomputable def nBy : Str := ⟨#[98, 121]⟩
noncomputable def nInside : Str := ⟨#[105, 110, 115, 105, 100, 101]⟩
noncomputable def nName : Str := ⟨#[110, 97, 109, 101]⟩
noncomputable def pickR (ρ : Rho) : List Str → Rho
  | [] => []
  | x :: xs => match lk ρ x with
    | some v => (x, v) :: pickR ρ xs
    | none => pickR ρ xs
noncomputable def hideC : List Cell → List Cell
  | [] => []
  | c :: cs => ⟨.hid, c.ver⟩ :: hideC cs
noncomputable def hideS (σ : Sto) : Sto := ⟨σ.n, hideC σ.cs⟩
-- the head of the law: what it draws; the lists that it drew from are forgotten
noncomputable def phA (K : Frag) (n : Nat) (xs : List AV) : Option (Rho × Sto) := (fnAt K lawA).bind fun F => match F.ps with
  | [p] => ((Rec.at K n).ex ⟨59, F.sc⟩ [(p, .scr xs)] ⟨0, []⟩ (takeN 4 F.body)).bind fun q => match q.1 with
    | .next => some (pickR q.2.1 [nForm, nBy, nInside, nName], hideS q.2.2)
    | .ret _ => none
  | _ => none
noncomputable def phB (K : Frag) (n : Nat) (st : Rho × Sto) : Bool := match fnAt K lawA with
  | some F => (match (Rec.at K n).ex ⟨59, F.sc⟩ st.1 st.2 (dropN 4 F.body) with
    | some q => (match q.1 with
      | .ret v => (match v with
        | .bool b => b
        | _ => false)
      | .next => false)
    | none => false)
  | none => false
noncomputable def whole (K : Frag) (n : Nat) (xs : List AV) : Bool := match phA K n xs with
  | some st => phB K n st
  | none => false

theorem execs_append (env : Env) : ∀ (a b : List Stmt), execs (a ++ b) env = (do match ← execs a env with | .next => execs b env | f => pure f)
  | [], b => by
    show execs b env = (pure Flow.next >>= _)
    rw [pure_bind]
  | st :: a, b => by
    have e1 : execs (st :: a ++ b) env = (exec st env >>= fun f => match f with | .next => execs (a ++ b) env | f => pure f) := rfl
    have e2 : execs (st :: a) env = (exec st env >>= fun f => match f with | .next => execs a env | f => pure f) := rfl
    rw [e1, e2, bind_assoc]
    congr 1
    funext f
    cases f <;> first
      | (show execs (a ++ b) env = _; exact execs_append env a b)
      | (show (pure _ : Sem Flow) = (pure _ >>= _); rw [pure_bind])

theorem take_drop {α : Type} : ∀ (n : Nat) (l : List α), takeN n l ++ dropN n l = l
  | 0, _ => rfl
  | n + 1, [] => rfl
  | n + 1, x :: l => by
    show x :: (takeN n l ++ dropN n l) = x :: l
    rw [take_drop n l]

section
variable {prog : Program} {w : World} {K : Frag} {h₀ h : Heap} {W : List Addr} {σ σ' : Sto} {s : Shared} {A : Around} {env : Env} {sc : List (Str × NameKind)} {c : Cx} {ρ : Rho} {R : Rec}

theorem pickR_lk {x : Str} {v : AV} : ∀ {xs : List Str}, lk (pickR ρ xs) x = some v → lk ρ x = some v
  | [], e => by cases e
  | y :: xs, e => by
    unfold pickR at e
    split at e
    · rename_i u hu
      unfold lk at e
      simp only at e
      cases q : sEq y x with
      | true =>
        rw [q] at e
        cases e
        rw [← sEq_iff.mp q]; exact hu
      | false =>
        rw [q] at e
        exact pickR_lk e
    · exact pickR_lk e
theorem FrOk.pick (f : FrOk h₀ env sc ρ h W) (xs : List Str) : FrOk h₀ env sc (pickR ρ xs) h W := by
  obtain ⟨m, hn, hm⟩ := f.ns
  exact ⟨f.kind, f.glob, f.bi, ⟨m, hn, fun x v q k => hm x v (pickR_lk q) k⟩, fun x v q k => f.cell x v (pickR_lk q) k, f.gi, f.lo, f.ce, f.fr, f.ap, f.cl, f.lW, f.l0⟩
theorem hideC_get : ∀ (cs : List Cell) (i : Nat), (hideC cs)[i]? = (cs[i]?).map fun c => ⟨.hid, c.ver⟩
  | [], i => by simp [hideC]
  | c :: cs, 0 => rfl
  | c :: cs, i + 1 => by simpa [hideC] using hideC_get cs i
theorem hideC_len : ∀ cs : List Cell, (hideC cs).length = cs.length
  | [] => rfl
  | c :: cs => by simp [hideC, hideC_len cs]
theorem SR.hide (R : SR prog w h₀ h W σ) : SR prog w h₀ h W (hideS σ) := by
  refine ⟨R.n, (hideC_len σ.cs).trans R.cs, fun i a c e ec => ?_, R.nd, R.ab, R.old⟩
  have hi := Sto.get_lt ec
  rw [Sto.get_eq hi] at ec
  have ec' : (hideC σ.cs)[σ.n - 1 - i]? = some c := ec
  rw [hideC_get] at ec'
  cases q : σ.cs[σ.n - 1 - i]? with
  | none => rw [q] at ec'; cases ec'
  | some c0 =>
    rw [q] at ec'
    cases ec'
    have : σ.get i = some c0 := by rw [Sto.get_eq (σ := σ) hi]; exact q
    exact (R.cell i a c0 e this).obj

theorem law_ok (B : Bs prog w K s.heap) {n : Nat} {xs : List AV} {a : Addr} (e : whole K n xs = true) (hA : AOk A 60) (rv : RV s.heap s.heap [] (.scr xs) (.ref a)) (E Q : Value → Shared → Prop)
    (q : ∀ h' tk, (∀ b o, s.heap.get? b = some o → h'.get? b = some o) → Q (.bool true) { s with heap := h', toks := tk }) : wpAny (model prog w) A (call (.ref lawA) [.ref a]) Q E s := by
  have KR := rec_ok B n
  have S0 : SR prog w s.heap s.heap [] ⟨0, []⟩ := ⟨rfl, rfl, fun i a c e => by simp at e, List.nodup_nil, fun a m => (by cases m), fun b o e => e⟩
  unfold whole at e
  split at e <;> (try (cases e; done))
  rename_i st hst
  unfold phA at hst
  obtain ⟨F, hF, hst⟩ := Option.bind_eq_some_iff.mp hst
  split at hst <;> (try (cases hst; done))
  rename_i p hp
  obtain ⟨⟨f1, ρ1, σ1⟩, e1, hst⟩ := Option.bind_eq_some_iff.mp hst
  cases f1 with
  | ret v => cases hst
  | next =>
  simp only [Option.some.injEq] at hst
  subst hst
  unfold phB at e
  rw [hF] at e
  simp only at e
  split at e <;> (try (cases e; done))
  rename_i q2 e2
  obtain ⟨f2, ρ2, σ2⟩ := q2
  simp only at e
  cases f2 with
  | next => cases e
  | ret v2 =>
  simp only at e
  have hv2 : v2 = .bool true := by
    cases v2 <;> first | (simp at e; done) | skip
    rename_i b
    simp only at e
    rw [e]
  subst hv2
  obtain ⟨o, fd, k⟩ := B.fns lawA F hF
  have hl : F.ps.length = ([Value.ref a] : List Value).length := by rw [hp]; rfl
  have hn := nodupS_iff k.nodup
  have hdp := hA.dp
  have hun := hA.un
  have hA' : ∀ env, AOk (A.deeper env) 59 := fun env => ⟨hA.hd, by show A.units + 3 + 60 * (59 + 1) < cLine; omega, by show A.depth + 1 + 2 * (59 + 1) < recursionLimit; omega⟩
  refine wpAny_call (codeAny_call_cells (binds := F.ps.zip [Value.ref a]) (by omega) k.here k.data B.lim k.code k.body (bindArgs_plain k.ps k.po k.ko k.va k.kw k.df hl hn) k.closure (fun x hx => ?_) (fun s₁ x => ?_) k.co k.gen k.kind)
  · have hm := (List.of_mem_zip (a := x.1) (b := x.2) hx).1
    have hloc := k.loc x.1 hm
    unfold isLocal at hloc
    rw [kindIn_eq, ← k.names] at hloc
    split at hloc
    · rename_i q; exact .inl q
    · rename_i q; exact .inr ⟨q, cells_some _ _ _ (.inl q)⟩
    · cases hloc
  · obtain ⟨h1, tk1, rfl, hk1⟩ := x.done
    obtain ⟨R1, S1⟩ := S0.grow0 hk1
    have fr := frame_ok k S0 hl x (RVs.stp S1 S0 (niNo _) (.cons rv .nil))
    have hz : F.ps.zip [AV.scr xs] = [(p, AV.scr xs)] := by rw [hp]; rfl
    rw [hz] at fr
    have hb : execs F.body (callEnvC fd s.heap.objs.size lawA) = execs (takeN 4 F.body ++ dropN 4 F.body) (callEnvC fd s.heap.objs.size lawA) := by rw [take_drop]
    rw [hb, execs_append]
    refine wpAny_bind ?_
    refine KR.ex ⟨59, F.sc⟩ _ _ _ _ _ _ e1 (A.deeper _) _ { s with heap := h1, toks := tk1 } [] (hA' _) fr R1 _ _ fun h2 tk2 W2 fl2 S2 R2 f2 hfl2 => ?_
    cases fl2 with
    | next =>
      refine KR.ex ⟨59, F.sc⟩ _ _ _ _ _ _ e2 (A.deeper _) _ { s with heap := h2, toks := tk2 } W2 (hA' _) (f2.pick _) R2.hide _ _ fun h3 tk3 W3 fl3 S3 R3 f3 hfl3 => ?_
      cases fl3 with
      | ret val =>
        have hval : RV s.heap h3 W3 (.bool true) val := hfl3
        cases hval
        exact q h3 tk3 R3.old
      | _ => exact hfl3.elim
    | _ => exact hfl2.elim

-- the script
noncomputable def absOf : List Int → List AV
  | [] => []
  | [i] => [.res 3 (i.natAbs % 3)]
  | [i, j] => [.res 3 (i.natAbs % 3), .res 4 (j.natAbs % 4)]
  | i :: j :: k :: r => .res 3 (i.natAbs % 3) :: .res 4 (j.natAbs % 4) :: .res 2 (k.natAbs % 2) :: (r.take 3).map fun _ => .unk
theorem unks {vs : List Value} {ns : List Int} (h : IntsAre vs ns) : ∀ n : Nat, RVs h₀ h₀ [] ((ns.take n).map fun _ => AV.unk) (vs.take n) := by
  induction h with
  | nil => intro n; cases n <;> exact .nil
  | cons i t r ih =>
    intro n
    cases n with
    | zero => exact .nil
    | succ n => exact .cons .unk (ih n)
theorem abs_ok' {h₀ : Heap} {vs : List Value} {ns : List Int} (h : IntsAre vs ns) : RVs h₀ h₀ [] (absOf ns) (vs.take 6) := by
  cases h with
  | nil => exact .nil
  | cons i t r =>
    cases r with
    | nil => exact .cons (.res t rfl) .nil
    | cons j u r =>
      cases r with
      | nil => exact .cons (.res t rfl) (.cons (.res u rfl) .nil)
      | cons k v r => exact .cons (.res t rfl) (.cons (.res u rfl) (.cons (.res v rfl) (unks r 3)))
end
end Mine
end
section
open PySem PySem.W PySem.SeqAt PyProof.Rows
set_option maxRecDepth 100000
set_option linter.unusedVariables false
namespace Mine
-- the same state, by a count
noncomputable def isT : Option Bool → Bool
  | some b => b
  | none => false
noncomputable def rhoB : Rho → Rho → Bool
  | [], l => match l with
    | [] => true
    | _ :: _ => false
  | p :: r, l => match l with
    | [] => false
    | q :: t => match sEq p.1 q.1 with
      | true => match isT (dEq 60 p.2 q.2) with
        | true => rhoB r t
        | false => false
      | false => false
noncomputable def cellsB : List Cell → List Cell → Bool
  | [], l => match l with
    | [] => true
    | _ :: _ => false
  | c :: r, l => match l with
    | [] => false
    | d :: t => match c.body with
      | .hid => match d.body with
        | .hid => match Nat.beq c.ver d.ver with
          | true => cellsB r t
          | false => false
        | _ => false
      | _ => false
noncomputable def stB (x y : Option (Rho × Sto)) : Bool := match x with
  | some p => match y with
    | some q => match rhoB p.1 q.1 with
      | true => match Nat.beq p.2.n q.2.n with
        | true => cellsB p.2.cs q.2.cs
        | false => false
      | false => false
    | none => false
  | none => false

theorem sEq_same {a b : Str} (h : sEq a b = true) : a = b := sEq_iff.mp h
theorem zip_same {f : AV → AV → Option Bool} (hf : ∀ x y, f x y = some true → x = y) : ∀ {xs ys : List AV}, zipAll f xs ys = some true → xs = ys
  | [], [], _ => rfl
  | [], y :: ys, e => by simp [zipAll] at e
  | x :: xs, [], e => by simp [zipAll] at e
  | x :: xs, y :: ys, e => by
    unfold zipAll at e
    simp only at e
    cases h1 : f x y with
    | none => rw [h1] at e; simp at e
    | some b =>
      rw [h1] at e
      simp only at e
      cases h2 : zipAll f xs ys with
      | none => rw [h2] at e; simp at e
      | some c =>
        rw [h2] at e
        cases b <;> cases c <;> simp at e
        rw [hf x y h1, zip_same hf h2]
theorem dEq_same : ∀ (n : Nat) (x y : AV), dEq n x y = some true → x = y := by
  intro n
  induction n with
  | zero =>
    intro x y e
    cases x <;> cases y <;> simp [dEq] at e
    · rename_i a b; cases a <;> cases b <;> simp at e <;> rfl
    · rw [(Z.eqB_iff _ _).mp e]
    · rw [sEq_same e]
  | succ n ih =>
    intro x y e
    cases x <;> cases y <;> simp [dEq] at e
    · rename_i a b; cases a <;> cases b <;> simp at e <;> rfl
    · rw [(Z.eqB_iff _ _).mp e]
    · rw [sEq_same e]
    · rw [zip_same ih e]
theorem rhoB_same : ∀ {a b : Rho}, rhoB a b = true → a = b
  | [], [], _ => rfl
  | [], _ :: _, e => by simp [rhoB] at e
  | p :: r, [], e => by simp [rhoB] at e
  | p :: r, q :: t, e => by
    unfold rhoB at e
    simp only at e
    cases h1 : sEq p.1 q.1 with
    | false => rw [h1] at e; simp at e
    | true =>
      rw [h1] at e
      simp only at e
      cases h2 : dEq 60 p.2 q.2 with
      | none => rw [h2] at e; simp [isT] at e
      | some c =>
        rw [h2] at e
        cases c with
        | false => simp [isT] at e
        | true =>
          simp only [isT] at e
          obtain ⟨p1, p2⟩ := p
          obtain ⟨q1, q2⟩ := q
          have := sEq_same h1
          have h3 := dEq_same 60 _ _ h2
          simp only at this h3
          rw [this, h3, rhoB_same e]
theorem cellsB_same : ∀ {a b : List Cell}, cellsB a b = true → a = b
  | [], [], _ => rfl
  | [], _ :: _, e => by simp [cellsB] at e
  | p :: r, [], e => by simp [cellsB] at e
  | ⟨b1, v1⟩ :: r, ⟨b2, v2⟩ :: t, e => by
    unfold cellsB at e
    simp only at e
    cases b1 <;> simp only at e <;> (try (cases e; done))
    cases b2 <;> simp only at e <;> (try (cases e; done))
    cases h : Nat.beq v1 v2 with
    | false => rw [h] at e; simp at e
    | true =>
      rw [h] at e
      rw [Nat.eq_of_beq_eq_true h, cellsB_same e]
theorem stB_same {x y : Option (Rho × Sto)} (e : stB x y = true) : x = y := by
  unfold stB at e
  cases x with
  | none => simp at e
  | some p =>
  cases y with
  | none => simp at e
  | some q =>
  simp only at e
  obtain ⟨p1, ⟨p2, p3⟩⟩ := p
  obtain ⟨q1, ⟨q2, q3⟩⟩ := q
  simp only at e
  cases h1 : rhoB p1 q1 with
  | false => rw [h1] at e; simp at e
  | true =>
    rw [h1] at e
    cases h2 : Nat.beq p2 q2 with
    | false => rw [h2] at e; simp at e
    | true =>
      rw [h2] at e
      rw [rhoB_same h1, Nat.eq_of_beq_eq_true h2, cellsB_same e]
theorem whole_same {K : Frag} {n : Nat} {xs ys : List AV} (e : stB (phA K n xs) (phA K n ys) = true) (h : whole K n ys = true) : whole K n xs = true := by
  unfold whole at *
  rw [stB_same e]
  exact h
end Mine
end
section
open PySem PySem.W PySem.SeqAt PyProof.Rows
set_option maxRecDepth 100000
set_option linter.unusedVariables false
namespace Mine

-- the twenty scripts that stand for all
noncomputable def canon (a b c : Nat) : List AV := [.res 3 a, .res 4 b, .res 2 c]
noncomputable def cOf (a c : Nat) : Nat := match a with
  | 2 => 0
  | _ => c
noncomputable def four (K : Frag) (a b c : Nat) : Bool := match phA K 600 (canon a b (cOf a c)) with
  | some st => stB (phA K 600 [.res 3 a, .res 4 b, .res 2 c]) (some st) && (stB (phA K 600 [.res 3 a, .res 4 b, .res 2 c, .unk]) (some st) &&
     (stB (phA K 600 [.res 3 a, .res 4 b, .res 2 c, .unk, .unk]) (some st) && stB (phA K 600 [.res 3 a, .res 4 b, .res 2 c, .unk, .unk, .unk]) (some st)))
  | none => false
noncomputable def two (K : Frag) (a b : Nat) : Bool := stB (phA K 600 [.res 3 a, .res 4 b]) (phA K 600 (canon a b 0))
noncomputable def one (K : Frag) (a : Nat) : Bool := stB (phA K 600 [.res 3 a]) (phA K 600 (canon a 2 0))
noncomputable def zero (K : Frag) : Bool := stB (phA K 600 []) (phA K 600 (canon 2 2 0))
theorem four_ok {K : Frag} {a b c : Nat} (h : four K a b c = true) : ∀ r : List Int, stB (phA K 600 (.res 3 a :: .res 4 b :: .res 2 c :: (r.take 3).map fun _ => .unk)) (phA K 600 (canon a b (cOf a c))) = true := by
  intro r
  unfold four at h
  split at h <;> (try (cases h; done))
  rename_i st hst
  rw [hst]
  simp only [Bool.and_eq_true] at h
  obtain ⟨h0, h1, h2, h3⟩ := h
  match r with
  | [] => exact h0
  | [_] => exact h1
  | [_, _] => exact h2
  | _ :: _ :: _ :: _ => exact h3
theorem all_whole {K : Frag} (z : zero K = true) (o : ∀ a, a < 3 → one K a = true) (t : ∀ a, a < 3 → ∀ b, b < 4 → two K a b = true) (f : ∀ a, a < 3 → ∀ b, b < 4 → ∀ c, c < 2 → four K a b c = true)
    (w : ∀ a, a < 3 → ∀ b, b < 4 → ∀ c, c < 2 → whole K 600 (canon a b (cOf a c)) = true) (ns : List Int) : whole K 600 (absOf ns) = true := by
  have lt : ∀ (i : Int) (m : Nat), 0 < m → i.natAbs % m < m := fun i m h => Nat.mod_lt _ h
  have c0 : ∀ a, cOf a 0 = 0 := fun a => by unfold cOf; split <;> rfl
  have w0 : ∀ a b, a < 3 → b < 4 → whole K 600 (canon a b 0) = true := fun a b ha hb => by
    have := w a ha b hb 0 (by decide)
    rw [c0] at this
    exact this
  match ns with
  | [] => exact whole_same z (w0 2 2 (by decide) (by decide))
  | [i] => exact whole_same (o _ (lt i 3 (by decide))) (w0 _ 2 (lt i 3 (by decide)) (by decide))
  | [i, j] => exact whole_same (t _ (lt i 3 (by decide)) _ (lt j 4 (by decide))) (w0 _ _ (lt i 3 (by decide)) (lt j 4 (by decide)))
  | i :: j :: k :: r => exact whole_same (four_ok (f _ (lt i 3 (by decide)) _ (lt j 4 (by decide)) _ (lt k 2 (by decide))) r) (w _ (lt i 3 (by decide)) _ (lt j 4 (by decide)) _ (lt k 2 (by decide)))
theorem below3 {P : Nat → Prop} (h0 : P 0) (h1 : P 1) (h2 : P 2) : ∀ a, a < 3 → P a
  | 0, _ => h0
  | 1, _ => h1
  | 2, _ => h2
  | n + 3, h => absurd h (Nat.not_lt.mpr (Nat.le_add_left 3 n))
theorem below4 {P : Nat → Prop} (h0 : P 0) (h1 : P 1) (h2 : P 2) (h3 : P 3) : ∀ a, a < 4 → P a
  | 0, _ => h0
  | 1, _ => h1
  | 2, _ => h2
  | 3, _ => h3
  | n + 4, h => absurd h (Nat.not_lt.mpr (Nat.le_add_left 4 n))
theorem below2 {P : Nat → Prop} (h0 : P 0) (h1 : P 1) : ∀ a, a < 2 → P a
  | 0, _ => h0
  | 1, _ => h1
  | n + 2, h => absurd h (Nat.not_lt.mpr (Nat.le_add_left 2 n))

theorem good_end {c : ClaimW} {cl : Str → Option Addr} {mean : ExcName → Option Value} {args : List WData} {s₁ : Shared} {h : Heap} {t : Nat}
    (hk : ∀ b o, s₁.heap.get? b = some o → h.get? b = some o) (hr : ∀ cls, c.raises args cls = false) (hp : c.post args (.bool true) args = true) (hg : s₁.gens = #[]) :
    GoodWG c cl mean args s₁ (.ok (.ret (.bool true))) { s₁ with heap := h, toks := t } :=
  ⟨.inl ⟨_, _, [], rfl, hr, ReadsW.bool true, hp, fun _ => ⟨List.nodup_nil, fun _ hm => (nomatch hm)⟩⟩, .of_keep hk, rfl, .of_eq hg⟩

theorem fin_ok {prog : Program} {w : World} {K : Frag} {c : ClaimW} {cl : Str → Option Addr} {mean : ExcName → Option Value} {args : List WData} {s : Shared} {vals : List Value} {ns : List Int} {a : Addr}
    (B : Bs prog w K s.heap) (hw : ∀ ns, whole K 600 (absOf ns) = true) (hl : s.heap.IsList a vals.toArray) (hi : IntsAre vals ns) (hb : vals.length = ns.length ∧ ns.length ≤ 2 ^ 20) (hg : s.gens = #[])
    (hr : ∀ cls, c.raises args cls = false) (hp : c.post args (.bool true) args = true) :
    wpAny (model prog w) callerA (call (.ref lawA) [.ref a]) (fun v s' => GoodWG c cl mean args s (.ok (.ret v)) s') (fun e s' => GoodWG c cl mean args s (.error e) s') s := by
  refine law_ok B (hw ns) ⟨rfl, by decide +kernel, by decide +kernel⟩ (.scr hl ?_ (abs_ok' hi)) _ _ fun h' tk hk => good_end hk hr hp hg
  obtain ⟨h1, h2⟩ := hb
  rw [List.size_toArray, h1]
  exact h2
end Mine
end
section
open PySem PySem.W
set_option maxRecDepth 1000000
set_option maxHeartbeats 0
namespace Mine
-- the fragment of the state that the law's code reads
noncomputable def R (a : Nat) : Value := .ref a
noncomputable def S (x : String) (t : Nat) : Value := .str (Str.ofString x) t
noncomputable def B (x : String) : Value := .builtin x
noncomputable def E (P : Params) (x : String) (t : Nat) (v : Value) : DictEntry := { hash := PyData.keyHash P (Str.ofString x), key := .str (Str.ofString x) t, val := v }
noncomputable def dO (es : Array DictEntry) (n : Nat) : Obj := ⟨.type "dict", none, .dict es n, #[]⟩
noncomputable def tO (vs : Array Value) : Obj := ⟨.type "tuple", none, .seq vs 0, #[]⟩
noncomputable def cO (vs : Array Value) : Obj := ⟨.type "code", none, .fields vs, #[]⟩
noncomputable def fO (k : Nat) (m : String) (t : Nat) (c : Nat) : Obj := match nth PySem.Challenge.pw_xw0039_01.main.body k with
  | some st => (match st with
    | .FunctionDef name args body _ _ _ scope _ _ _ => ⟨.type "function", none, .func { name := name, qualname := name, params := args, body := .stmts body, scope := scope, globals := 3, closure := [], defaults := .none, kwdefaults := .none, pyModule := .str (Str.ofString m) t, code := .ref c }, #[]⟩
    | _ => default)
  | none => default
noncomputable def KK (P : Params) : Frag := [
  (1, dO #[E P "builtins" 162 (R 4), E P "__main__" 163 (R 5)] 2),
  (3, dO #[E P "__name__" 165 (S "law_xw0039_01" 816), E P "__doc__" 166 (.none), E P "__package__" 167 (.none), E P "__loader__" 168 (B "__main__.__loader__#opaque"), E P "__spec__" 169 (.none), E P "__annotations__" 170 (R 6), E P "__builtins__" 171 (R 4), E P "__file__" 173 (S "/claim/cut.py" 172), E P "__cached__" 174 (.none), E P "CasFail" 219 (R 31), E P "gcd" 229 (R 41), E P "bits_of" 239 (R 48), E P "least_divisor" 248 (R 55), E P "prime_factors" 258 (R 62), E P "MOST_BITS" 262 (.int (200000) 261), E P "rat" 271 (R 69), E P "radd" 279 (R 76), E P "rmul" 287 (R 83), E P "rinv" 294 (R 90), E P "rpower" 303 (R 97), E P "rfloor" 310 (R 104), E P "T_ZERO" 316 (R 105), E P "T_ONE" 320 (R 106), E P "MOST_NARROW" 322 (.int (100) 321), E P "t_num" 331 (R 113), E P "t_sym" 338 (R 120), E P "t_sum" 345 (R 127), E P "t_prod" 352 (R 134), E P "t_pow" 360 (R 141), E P "t_call" 368 (R 148), E P "is_num" 375 (R 155), E P "num_of" 382 (R 162), E P "is_whole_num" 389 (R 169), E P "inner_terms" 397 (R 176), E P "with_inner" 406 (R 183), E P "is_too_great" 412 (R 188), E P "RANKS" 439 (R 189), E P "sign_between" 447 (R 196), E P "compare_values" 455 (R 203), E P "bare_factors" 461 (R 208), E P "front_value" 468 (R 215), E P "base_and_exponent" 475 (R 222), E P "compare_rows" 485 (R 229), E P "compare_exponents" 493 (R 236), E P "compare_bases" 503 (R 243), E P "compare_factors" 516 (R 250), E P "compare_terms" 528 (R 257), E P "merged_terms" 540 (R 264), E P "sort_terms" 548 (R 271), E P "ZERO" 554 (R 272), E P "ONE" 558 (R 273), E P "MINUS_ONE" 563 (R 274), E P "HALF" 567 (R 275), E P "EXP_ONE" 570 (R 277), E P "MOST_FACTORED" 574 (.int (1000000) 573), E P "MOST_FACTORIAL" 576 (.int (200) 575), E P "ODD_CALLS" 580 (R 278), E P "number_term" 587 (R 285), E P "number_and_rest" 595 (R 292), E P "with_number" 603 (R 299), E P "flat_parts" 613 (R 306), E P "gathered_sum" 619 (R 311), E P "is_one_call" 627 (R 318), E P "as_power" 634 (R 325), E P "gathered_product" 649 (R 332), E P "power_of" 655 (R 337), E P "split_power" 666 (R 344), E P "number_power" 674 (R 351), E P "radical_of" 691 (R 358), E P "begins_below" 699 (R 365), E P "negated_term" 705 (R 370), E P "exp_of" 717 (R 377), E P "log_of" 724 (R 384), E P "factorial_of" 733 (R 391), E P "call_of" 742 (R 398), E P "simplify" 748 (R 403), E P "MOST_LEVELS" 752 (.int (120) 751), E P "MOST_TERMS" 754 (.int (20000) 753), E P "MOST_RAW" 756 (.int (200000) 755), E P "has_own_letter" 763 (R 410), E P "has_root_letter" 770 (R 417), E P "open_letters" 776 (R 422), E P "sum_replaced" 782 (R 427), E P "replaced" 788 (R 432), E P "has_ratio" 794 (R 437), E P "settled" 800 (R 442), E P "substitute" 809 (R 449), E P "substitute_all" 815 (R 454), E P "_law_i" 823 (R 461), E P "_law_j" 829 (R 468), E P "_law_n" 835 (R 475), E P "_law_take" 843 (R 482), E P "_law_over" 852 (R 489), E P "law" 868 (R 496)] 94),
  (40, cO #[S "gcd" 222, S "gcd" 223, S "/claim/cut.py" 224, .int (9) 0, .int (2) 0, .int (0) 0, .int (0) 0, .int (3) 0, R 35, .bool true, .int (181) 0, R 36, .none, R 37, R 38, R 39, .int (227) 0, .int (9) 0, S "/claim/cut.py" 228]),
  (41, fO 3 "cas.ints" 220 40),
  (47, cO #[S "bits_of" 230, S "bits_of" 231, S "/claim/cut.py" 232, .int (14) 0, .int (1) 0, .int (0) 0, .int (0) 0, .int (3) 0, R 42, .bool true, .int (181) 0, R 43, .none, R 44, R 45, R 46, .int (237) 0, .int (14) 0, S "/claim/cut.py" 238]),
  (48, fO 4 "cas.ints" 220 47),
  (54, cO #[S "least_divisor" 240, S "least_divisor" 241, S "/claim/cut.py" 242, .int (21) 0, .int (2) 0, .int (0) 0, .int (0) 0, .int (3) 0, R 49, .bool true, .int (181) 0, R 50, .none, R 51, R 52, R 53, .int (246) 0, .int (21) 0, S "/claim/cut.py" 247]),
  (55, fO 5 "cas.ints" 220 54),
  (61, cO #[S "prime_factors" 249, S "prime_factors" 250, S "/claim/cut.py" 251, .int (28) 0, .int (1) 0, .int (0) 0, .int (0) 0, .int (3) 0, R 56, .bool true, .int (181) 0, R 57, .none, R 58, R 59, R 60, .int (256) 0, .int (28) 0, S "/claim/cut.py" 257]),
  (62, fO 6 "cas.ints" 220 61),
  (68, cO #[S "rat" 263, S "rat" 264, S "/claim/cut.py" 265, .int (39) 0, .int (2) 0, .int (0) 0, .int (0) 0, .int (3) 0, R 63, .bool true, .int (181) 0, R 64, .none, R 65, R 66, R 67, .int (269) 0, .int (39) 0, S "/claim/cut.py" 270]),
  (69, fO 9 "cas.rats" 259 68),
  (75, cO #[S "radd" 272, S "radd" 273, S "/claim/cut.py" 274, .int (44) 0, .int (2) 0, .int (0) 0, .int (0) 0, .int (3) 0, R 70, .bool true, .int (181) 0, R 71, .none, R 72, R 73, R 74, .int (277) 0, .int (44) 0, S "/claim/cut.py" 278]),
  (76, fO 10 "cas.rats" 259 75),
  (82, cO #[S "rmul" 280, S "rmul" 281, S "/claim/cut.py" 282, .int (46) 0, .int (2) 0, .int (0) 0, .int (0) 0, .int (3) 0, R 77, .bool true, .int (181) 0, R 78, .none, R 79, R 80, R 81, .int (285) 0, .int (46) 0, S "/claim/cut.py" 286]),
  (83, fO 11 "cas.rats" 259 82),
  (89, cO #[S "rinv" 288, S "rinv" 289, S "/claim/cut.py" 290, .int (48) 0, .int (1) 0, .int (0) 0, .int (0) 0, .int (3) 0, R 84, .bool true, .int (181) 0, R 85, .none, R 86, R 87, R 88, .int (292) 0, .int (48) 0, S "/claim/cut.py" 293]),
  (90, fO 12 "cas.rats" 259 89),
  (96, cO #[S "rpower" 295, S "rpower" 296, S "/claim/cut.py" 297, .int (50) 0, .int (2) 0, .int (0) 0, .int (0) 0, .int (3) 0, R 91, .bool true, .int (181) 0, R 92, .none, R 93, R 94, R 95, .int (301) 0, .int (50) 0, S "/claim/cut.py" 302]),
  (97, fO 13 "cas.rats" 259 96),
  (103, cO #[S "rfloor" 304, S "rfloor" 305, S "/claim/cut.py" 306, .int (57) 0, .int (1) 0, .int (0) 0, .int (0) 0, .int (3) 0, R 98, .bool true, .int (181) 0, R 99, .none, R 100, R 101, R 102, .int (308) 0, .int (57) 0, S "/claim/cut.py" 309]),
  (104, fO 14 "cas.rats" 259 103),
  (112, cO #[S "t_num" 323, S "t_num" 324, S "/claim/cut.py" 325, .int (63) 0, .int (2) 0, .int (0) 0, .int (0) 0, .int (3) 0, R 107, .bool true, .int (181) 0, R 108, .none, R 109, R 110, R 111, .int (329) 0, .int (63) 0, S "/claim/cut.py" 330]),
  (113, fO 19 "cas.terms" 311 112),
  (119, cO #[S "t_sym" 332, S "t_sym" 333, S "/claim/cut.py" 334, .int (66) 0, .int (1) 0, .int (0) 0, .int (0) 0, .int (3) 0, R 114, .bool true, .int (181) 0, R 115, .none, R 116, R 117, R 118, .int (336) 0, .int (66) 0, S "/claim/cut.py" 337]),
  (120, fO 20 "cas.terms" 311 119),
  (126, cO #[S "t_sum" 339, S "t_sum" 340, S "/claim/cut.py" 341, .int (68) 0, .int (1) 0, .int (0) 0, .int (0) 0, .int (3) 0, R 121, .bool true, .int (181) 0, R 122, .none, R 123, R 124, R 125, .int (343) 0, .int (68) 0, S "/claim/cut.py" 344]),
  (127, fO 21 "cas.terms" 311 126),
  (133, cO #[S "t_prod" 346, S "t_prod" 347, S "/claim/cut.py" 348, .int (72) 0, .int (1) 0, .int (0) 0, .int (0) 0, .int (3) 0, R 128, .bool true, .int (181) 0, R 129, .none, R 130, R 131, R 132, .int (350) 0, .int (72) 0, S "/claim/cut.py" 351]),
  (134, fO 22 "cas.terms" 311 133),
  (140, cO #[S "t_pow" 353, S "t_pow" 354, S "/claim/cut.py" 355, .int (76) 0, .int (2) 0, .int (0) 0, .int (0) 0, .int (3) 0, R 135, .bool true, .int (181) 0, R 136, .none, R 137, R 138, R 139, .int (358) 0, .int (76) 0, S "/claim/cut.py" 359]),
  (141, fO 23 "cas.terms" 311 140),
  (147, cO #[S "t_call" 361, S "t_call" 362, S "/claim/cut.py" 363, .int (78) 0, .int (2) 0, .int (0) 0, .int (0) 0, .int (3) 0, R 142, .bool true, .int (181) 0, R 143, .none, R 144, R 145, R 146, .int (366) 0, .int (78) 0, S "/claim/cut.py" 367]),
  (148, fO 24 "cas.terms" 311 147),
  (154, cO #[S "is_num" 369, S "is_num" 370, S "/claim/cut.py" 371, .int (80) 0, .int (1) 0, .int (0) 0, .int (0) 0, .int (3) 0, R 149, .bool true, .int (181) 0, R 150, .none, R 151, R 152, R 153, .int (373) 0, .int (80) 0, S "/claim/cut.py" 374]),
  (155, fO 25 "cas.terms" 311 154),
  (161, cO #[S "num_of" 376, S "num_of" 377, S "/claim/cut.py" 378, .int (82) 0, .int (1) 0, .int (0) 0, .int (0) 0, .int (3) 0, R 156, .bool true, .int (181) 0, R 157, .none, R 158, R 159, R 160, .int (380) 0, .int (82) 0, S "/claim/cut.py" 381]),
  (162, fO 26 "cas.terms" 311 161),
  (168, cO #[S "is_whole_num" 383, S "is_whole_num" 384, S "/claim/cut.py" 385, .int (84) 0, .int (1) 0, .int (0) 0, .int (0) 0, .int (3) 0, R 163, .bool true, .int (181) 0, R 164, .none, R 165, R 166, R 167, .int (387) 0, .int (84) 0, S "/claim/cut.py" 388]),
  (169, fO 27 "cas.terms" 311 168),
  (175, cO #[S "inner_terms" 390, S "inner_terms" 391, S "/claim/cut.py" 392, .int (86) 0, .int (1) 0, .int (0) 0, .int (0) 0, .int (3) 0, R 170, .bool true, .int (181) 0, R 171, .none, R 172, R 173, R 174, .int (395) 0, .int (86) 0, S "/claim/cut.py" 396]),
  (176, fO 28 "cas.terms" 311 175),
  (182, cO #[S "with_inner" 398, S "with_inner" 399, S "/claim/cut.py" 400, .int (93) 0, .int (2) 0, .int (0) 0, .int (0) 0, .int (3) 0, R 177, .bool true, .int (181) 0, R 178, .none, R 179, R 180, R 181, .int (404) 0, .int (93) 0, S "/claim/cut.py" 405]),
  (183, fO 29 "cas.terms" 311 182),
  (187, cO #[S "is_too_great" 407, S "is_too_great" 408, S "/claim/cut.py" 409, .int (100) 0, .int (3) 0, .int (0) 0, .int (0) 0, .int (3) 0, R 184, .bool true, .int (181) 0, R 185, .none, .none, .none, R 186, .int (410) 0, .int (100) 0, S "/claim/cut.py" 411]),
  (188, fO 30 "cas.terms" 311 187),
  (189, dO #[E P "sym" 415 (.int (0) 416), E P "call" 417 (.int (1) 418), E P "sum" 419 (.int (2) 420), E P "prod" 421 (.int (3) 422), E P "num" 423 (.int (4) 424), E P "pow" 425 (.int (5) 426), E P "eq" 427 (.int (6) 428), E P "list" 429 (.int (7) 430)] 8),
  (195, cO #[S "sign_between" 440, S "sign_between" 441, S "/claim/cut.py" 442, .int (114) 0, .int (2) 0, .int (0) 0, .int (0) 0, .int (3) 0, R 190, .bool true, .int (181) 0, R 191, .none, R 192, R 193, R 194, .int (445) 0, .int (114) 0, S "/claim/cut.py" 446]),
  (196, fO 33 "cas.termorder" 413 195),
  (202, cO #[S "compare_values" 448, S "compare_values" 449, S "/claim/cut.py" 450, .int (118) 0, .int (2) 0, .int (0) 0, .int (0) 0, .int (3) 0, R 197, .bool true, .int (181) 0, R 198, .none, R 199, R 200, R 201, .int (453) 0, .int (118) 0, S "/claim/cut.py" 454]),
  (203, fO 34 "cas.termorder" 413 202),
  (207, cO #[S "bare_factors" 456, S "bare_factors" 457, S "/claim/cut.py" 458, .int (120) 0, .int (1) 0, .int (0) 0, .int (0) 0, .int (3) 0, R 204, .bool true, .int (181) 0, R 205, .none, .none, .none, R 206, .int (459) 0, .int (120) 0, S "/claim/cut.py" 460]),
  (208, fO 35 "cas.termorder" 413 207),
  (214, cO #[S "front_value" 462, S "front_value" 463, S "/claim/cut.py" 464, .int (124) 0, .int (1) 0, .int (0) 0, .int (0) 0, .int (3) 0, R 209, .bool true, .int (181) 0, R 210, .none, R 211, R 212, R 213, .int (466) 0, .int (124) 0, S "/claim/cut.py" 467]),
  (215, fO 36 "cas.termorder" 413 214),
  (221, cO #[S "base_and_exponent" 469, S "base_and_exponent" 470, S "/claim/cut.py" 471, .int (128) 0, .int (1) 0, .int (0) 0, .int (0) 0, .int (3) 0, R 216, .bool true, .int (181) 0, R 217, .none, R 218, R 219, R 220, .int (473) 0, .int (128) 0, S "/claim/cut.py" 474]),
  (222, fO 37 "cas.termorder" 413 221),
  (228, cO #[S "compare_rows" 476, S "compare_rows" 477, S "/claim/cut.py" 478, .int (130) 0, .int (2) 0, .int (0) 0, .int (0) 0, .int (3) 0, R 223, .bool true, .int (181) 0, R 224, .none, R 225, R 226, R 227, .int (483) 0, .int (130) 0, S "/claim/cut.py" 484]),
  (229, fO 38 "cas.termorder" 413 228),
  (235, cO #[S "compare_exponents" 486, S "compare_exponents" 487, S "/claim/cut.py" 488, .int (136) 0, .int (2) 0, .int (0) 0, .int (0) 0, .int (3) 0, R 230, .bool true, .int (181) 0, R 231, .none, R 232, R 233, R 234, .int (491) 0, .int (136) 0, S "/claim/cut.py" 492]),
  (236, fO 39 "cas.termorder" 413 235),
  (242, cO #[S "compare_bases" 494, S "compare_bases" 495, S "/claim/cut.py" 496, .int (142) 0, .int (2) 0, .int (0) 0, .int (0) 0, .int (3) 0, R 237, .bool true, .int (181) 0, R 238, .none, R 239, R 240, R 241, .int (501) 0, .int (142) 0, S "/claim/cut.py" 502]),
  (243, fO 40 "cas.termorder" 413 242),
  (249, cO #[S "compare_factors" 504, S "compare_factors" 505, S "/claim/cut.py" 506, .int (157) 0, .int (2) 0, .int (0) 0, .int (0) 0, .int (3) 0, R 244, .bool true, .int (181) 0, R 245, .none, R 246, R 247, R 248, .int (514) 0, .int (157) 0, S "/claim/cut.py" 515]),
  (250, fO 41 "cas.termorder" 413 249),
  (256, cO #[S "compare_terms" 517, S "compare_terms" 518, S "/claim/cut.py" 519, .int (162) 0, .int (2) 0, .int (0) 0, .int (0) 0, .int (3) 0, R 251, .bool true, .int (181) 0, R 252, .none, R 253, R 254, R 255, .int (526) 0, .int (162) 0, S "/claim/cut.py" 527]),
  (257, fO 42 "cas.termorder" 413 256),
  (263, cO #[S "merged_terms" 529, S "merged_terms" 530, S "/claim/cut.py" 531, .int (174) 0, .int (2) 0, .int (0) 0, .int (0) 0, .int (3) 0, R 258, .bool true, .int (181) 0, R 259, .none, R 260, R 261, R 262, .int (538) 0, .int (174) 0, S "/claim/cut.py" 539]),
  (264, fO 43 "cas.termorder" 413 263),
  (270, cO #[S "sort_terms" 541, S "sort_terms" 542, S "/claim/cut.py" 543, .int (185) 0, .int (1) 0, .int (0) 0, .int (0) 0, .int (3) 0, R 265, .bool true, .int (181) 0, R 266, .none, R 267, R 268, R 269, .int (546) 0, .int (185) 0, S "/claim/cut.py" 547]),
  (271, fO 44 "cas.termorder" 413 270),
  (105, tO #[S "num" 313, .int (0) 314, .int (1) 315]),
  (106, tO #[S "num" 317, .int (1) 318, .int (1) 319]),
  (272, tO #[S "num" 551, .int (0) 552, .int (1) 553]),
  (273, tO #[S "num" 555, .int (1) 556, .int (1) 557]),
  (274, tO #[S "num" 559, .int (-1) 561, .int (1) 562]),
  (275, tO #[S "num" 564, .int (1) 565, .int (2) 566]),
  (276, tO #[R 273]),
  (277, tO #[S "call" 568, S "exp" 569, R 276]),
  (278, tO #[S "sin" 577, S "tan" 578, S "atan" 579]),
  (284, cO #[S "number_term" 581, S "number_term" 582, S "/claim/cut.py" 583, .int (199) 0, .int (1) 0, .int (0) 0, .int (0) 0, .int (3) 0, R 279, .bool true, .int (181) 0, R 280, .none, R 281, R 282, R 283, .int (585) 0, .int (199) 0, S "/claim/cut.py" 586]),
  (285, fO 54 "cas.simp" 549 284),
  (291, cO #[S "number_and_rest" 588, S "number_and_rest" 589, S "/claim/cut.py" 590, .int (201) 0, .int (1) 0, .int (0) 0, .int (0) 0, .int (3) 0, R 286, .bool true, .int (181) 0, R 287, .none, R 288, R 289, R 290, .int (593) 0, .int (201) 0, S "/claim/cut.py" 594]),
  (292, fO 55 "cas.simp" 549 291),
  (298, cO #[S "with_number" 596, S "with_number" 597, S "/claim/cut.py" 598, .int (208) 0, .int (2) 0, .int (0) 0, .int (0) 0, .int (3) 0, R 293, .bool true, .int (181) 0, R 294, .none, R 295, R 296, R 297, .int (601) 0, .int (208) 0, S "/claim/cut.py" 602]),
  (299, fO 56 "cas.simp" 549 298),
  (305, cO #[S "flat_parts" 604, S "flat_parts" 605, S "/claim/cut.py" 606, .int (214) 0, .int (2) 0, .int (0) 0, .int (0) 0, .int (3) 0, R 300, .bool true, .int (181) 0, R 301, .none, R 302, R 303, R 304, .int (611) 0, .int (214) 0, S "/claim/cut.py" 612]),
  (306, fO 57 "cas.simp" 549 305),
  (310, cO #[S "gathered_sum" 614, S "gathered_sum" 615, S "/claim/cut.py" 616, .int (219) 0, .int (1) 0, .int (0) 0, .int (0) 0, .int (3) 0, R 307, .bool true, .int (181) 0, R 308, .none, .none, .none, R 309, .int (617) 0, .int (219) 0, S "/claim/cut.py" 618]),
  (311, fO 58 "cas.simp" 549 310),
  (317, cO #[S "is_one_call" 620, S "is_one_call" 621, S "/claim/cut.py" 622, .int (232) 0, .int (2) 0, .int (0) 0, .int (0) 0, .int (3) 0, R 312, .bool true, .int (181) 0, R 313, .none, R 314, R 315, R 316, .int (625) 0, .int (232) 0, S "/claim/cut.py" 626]),
  (318, fO 59 "cas.simp" 549 317),
  (324, cO #[S "as_power" 628, S "as_power" 629, S "/claim/cut.py" 630, .int (234) 0, .int (1) 0, .int (0) 0, .int (0) 0, .int (3) 0, R 319, .bool true, .int (181) 0, R 320, .none, R 321, R 322, R 323, .int (632) 0, .int (234) 0, S "/claim/cut.py" 633]),
  (325, fO 60 "cas.simp" 549 324),
  (331, cO #[S "gathered_product" 635, S "gathered_product" 636, S "/claim/cut.py" 637, .int (240) 0, .int (1) 0, .int (0) 0, .int (0) 0, .int (3) 0, R 326, .bool true, .int (181) 0, R 327, .none, R 328, R 329, R 330, .int (647) 0, .int (240) 0, S "/claim/cut.py" 648]),
  (332, fO 61 "cas.simp" 549 331),
  (336, cO #[S "power_of" 650, S "power_of" 651, S "/claim/cut.py" 652, .int (264) 0, .int (2) 0, .int (0) 0, .int (0) 0, .int (3) 0, R 333, .bool true, .int (181) 0, R 334, .none, .none, .none, R 335, .int (653) 0, .int (264) 0, S "/claim/cut.py" 654]),
  (337, fO 62 "cas.simp" 549 336),
  (343, cO #[S "split_power" 656, S "split_power" 657, S "/claim/cut.py" 658, .int (284) 0, .int (2) 0, .int (0) 0, .int (0) 0, .int (3) 0, R 338, .bool true, .int (181) 0, R 339, .none, R 340, R 341, R 342, .int (664) 0, .int (284) 0, S "/claim/cut.py" 665]),
  (344, fO 63 "cas.simp" 549 343),
  (350, cO #[S "number_power" 667, S "number_power" 668, S "/claim/cut.py" 669, .int (289) 0, .int (2) 0, .int (0) 0, .int (0) 0, .int (3) 0, R 345, .bool true, .int (181) 0, R 346, .none, R 347, R 348, R 349, .int (672) 0, .int (289) 0, S "/claim/cut.py" 673]),
  (351, fO 64 "cas.simp" 549 350),
  (357, cO #[S "radical_of" 675, S "radical_of" 676, S "/claim/cut.py" 677, .int (303) 0, .int (2) 0, .int (0) 0, .int (0) 0, .int (3) 0, R 352, .bool true, .int (181) 0, R 353, .none, R 354, R 355, R 356, .int (689) 0, .int (303) 0, S "/claim/cut.py" 690]),
  (358, fO 65 "cas.simp" 549 357),
  (364, cO #[S "begins_below" 692, S "begins_below" 693, S "/claim/cut.py" 694, .int (317) 0, .int (1) 0, .int (0) 0, .int (0) 0, .int (3) 0, R 359, .bool true, .int (181) 0, R 360, .none, R 361, R 362, R 363, .int (697) 0, .int (317) 0, S "/claim/cut.py" 698]),
  (365, fO 66 "cas.simp" 549 364),
  (369, cO #[S "negated_term" 700, S "negated_term" 701, S "/claim/cut.py" 702, .int (320) 0, .int (1) 0, .int (0) 0, .int (0) 0, .int (3) 0, R 366, .bool true, .int (181) 0, R 367, .none, .none, .none, R 368, .int (703) 0, .int (320) 0, S "/claim/cut.py" 704]),
  (370, fO 67 "cas.simp" 549 369),
  (376, cO #[S "exp_of" 706, S "exp_of" 707, S "/claim/cut.py" 708, .int (324) 0, .int (1) 0, .int (0) 0, .int (0) 0, .int (3) 0, R 371, .bool true, .int (181) 0, R 372, .none, R 373, R 374, R 375, .int (715) 0, .int (324) 0, S "/claim/cut.py" 716]),
  (377, fO 68 "cas.simp" 549 376),
  (383, cO #[S "log_of" 718, S "log_of" 719, S "/claim/cut.py" 720, .int (337) 0, .int (1) 0, .int (0) 0, .int (0) 0, .int (3) 0, R 378, .bool true, .int (181) 0, R 379, .none, R 380, R 381, R 382, .int (722) 0, .int (337) 0, S "/claim/cut.py" 723]),
  (384, fO 69 "cas.simp" 549 383),
  (390, cO #[S "factorial_of" 725, S "factorial_of" 726, S "/claim/cut.py" 727, .int (345) 0, .int (1) 0, .int (0) 0, .int (0) 0, .int (3) 0, R 385, .bool true, .int (181) 0, R 386, .none, R 387, R 388, R 389, .int (731) 0, .int (345) 0, S "/claim/cut.py" 732]),
  (391, fO 70 "cas.simp" 549 390),
  (397, cO #[S "call_of" 734, S "call_of" 735, S "/claim/cut.py" 736, .int (354) 0, .int (2) 0, .int (0) 0, .int (0) 0, .int (3) 0, R 392, .bool true, .int (181) 0, R 393, .none, R 394, R 395, R 396, .int (740) 0, .int (354) 0, S "/claim/cut.py" 741]),
  (398, fO 71 "cas.simp" 549 397),
  (402, cO #[S "simplify" 743, S "simplify" 744, S "/claim/cut.py" 745, .int (377) 0, .int (1) 0, .int (0) 0, .int (0) 0, .int (3) 0, R 399, .bool true, .int (181) 0, R 400, .none, .none, .none, R 401, .int (746) 0, .int (377) 0, S "/claim/cut.py" 747]),
  (403, fO 72 "cas.simp" 549 402),
  (409, cO #[S "has_own_letter" 757, S "has_own_letter" 758, S "/claim/cut.py" 759, .int (397) 0, .int (1) 0, .int (0) 0, .int (0) 0, .int (3) 0, R 404, .bool true, .int (181) 0, R 405, .none, R 406, R 407, R 408, .int (761) 0, .int (397) 0, S "/claim/cut.py" 762]),
  (410, fO 77 "cas.subst" 749 409),
  (416, cO #[S "has_root_letter" 764, S "has_root_letter" 765, S "/claim/cut.py" 766, .int (399) 0, .int (1) 0, .int (0) 0, .int (0) 0, .int (3) 0, R 411, .bool true, .int (181) 0, R 412, .none, R 413, R 414, R 415, .int (768) 0, .int (399) 0, S "/claim/cut.py" 769]),
  (417, fO 78 "cas.subst" 749 416),
  (421, cO #[S "open_letters" 771, S "open_letters" 772, S "/claim/cut.py" 773, .int (401) 0, .int (1) 0, .int (0) 0, .int (0) 0, .int (3) 0, R 418, .bool true, .int (181) 0, R 419, .none, .none, .none, R 420, .int (774) 0, .int (401) 0, S "/claim/cut.py" 775]),
  (422, fO 79 "cas.subst" 749 421),
  (426, cO #[S "sum_replaced" 777, S "sum_replaced" 778, S "/claim/cut.py" 779, .int (412) 0, .int (2) 0, .int (0) 0, .int (0) 0, .int (3) 0, R 423, .bool true, .int (181) 0, R 424, .none, .none, .none, R 425, .int (780) 0, .int (412) 0, S "/claim/cut.py" 781]),
  (427, fO 80 "cas.subst" 749 426),
  (431, cO #[S "replaced" 783, S "replaced" 784, S "/claim/cut.py" 785, .int (424) 0, .int (2) 0, .int (0) 0, .int (0) 0, .int (3) 0, R 428, .bool true, .int (181) 0, R 429, .none, .none, .none, R 430, .int (786) 0, .int (424) 0, S "/claim/cut.py" 787]),
  (432, fO 81 "cas.subst" 749 431),
  (436, cO #[S "has_ratio" 789, S "has_ratio" 790, S "/claim/cut.py" 791, .int (432) 0, .int (1) 0, .int (0) 0, .int (0) 0, .int (3) 0, R 433, .bool true, .int (181) 0, R 434, .none, .none, .none, R 435, .int (792) 0, .int (432) 0, S "/claim/cut.py" 793]),
  (437, fO 82 "cas.subst" 749 436),
  (441, cO #[S "settled" 795, S "settled" 796, S "/claim/cut.py" 797, .int (435) 0, .int (3) 0, .int (0) 0, .int (0) 0, .int (3) 0, R 438, .bool true, .int (181) 0, R 439, .none, .none, .none, R 440, .int (798) 0, .int (435) 0, S "/claim/cut.py" 799]),
  (442, fO 83 "cas.subst" 749 441),
  (448, cO #[S "substitute" 801, S "substitute" 802, S "/claim/cut.py" 803, .int (450) 0, .int (3) 0, .int (0) 0, .int (0) 0, .int (3) 0, R 443, .bool true, .int (181) 0, R 444, .none, R 445, R 446, R 447, .int (807) 0, .int (450) 0, S "/claim/cut.py" 808]),
  (449, fO 84 "cas.subst" 749 448),
  (453, cO #[S "substitute_all" 810, S "substitute_all" 811, S "/claim/cut.py" 812, .int (452) 0, .int (2) 0, .int (0) 0, .int (0) 0, .int (3) 0, R 450, .bool true, .int (181) 0, R 451, .none, .none, .none, R 452, .int (813) 0, .int (452) 0, S "/claim/cut.py" 814]),
  (454, fO 85 "cas.subst" 749 453),
  (460, cO #[S "_law_i" 818, S "_law_i" 819, S "/claim/cut.py" 820, .int (459) 0, .int (0) 0, .int (0) 0, .int (0) 0, .int (3) 0, R 455, .bool true, .int (181) 0, R 456, .none, R 457, R 458, R 459, .int (821) 0, .int (459) 0, S "/claim/cut.py" 822]),
  (461, fO 87 "law_xw0039_01" 816 460),
  (467, cO #[S "_law_j" 824, S "_law_j" 825, S "/claim/cut.py" 826, .int (461) 0, .int (0) 0, .int (0) 0, .int (0) 0, .int (3) 0, R 462, .bool true, .int (181) 0, R 463, .none, R 464, R 465, R 466, .int (827) 0, .int (461) 0, S "/claim/cut.py" 828]),
  (468, fO 88 "law_xw0039_01" 816 467),
  (474, cO #[S "_law_n" 830, S "_law_n" 831, S "/claim/cut.py" 832, .int (463) 0, .int (0) 0, .int (0) 0, .int (0) 0, .int (3) 0, R 469, .bool true, .int (181) 0, R 470, .none, R 471, R 472, R 473, .int (833) 0, .int (463) 0, S "/claim/cut.py" 834]),
  (475, fO 89 "law_xw0039_01" 816 474),
  (481, cO #[S "_law_take" 836, S "_law_take" 837, S "/claim/cut.py" 838, .int (465) 0, .int (2) 0, .int (0) 0, .int (0) 0, .int (3) 0, R 476, .bool true, .int (181) 0, R 477, .none, R 478, R 479, R 480, .int (841) 0, .int (465) 0, S "/claim/cut.py" 842]),
  (482, fO 90 "law_xw0039_01" 816 481),
  (488, cO #[S "_law_over" 844, S "_law_over" 845, S "/claim/cut.py" 846, .int (470) 0, .int (3) 0, .int (0) 0, .int (0) 0, .int (3) 0, R 483, .bool true, .int (181) 0, R 484, .none, R 485, R 486, R 487, .int (850) 0, .int (470) 0, S "/claim/cut.py" 851]),
  (489, fO 91 "law_xw0039_01" 816 488),
  (495, cO #[S "law" 853, S "law" 854, S "/claim/cut.py" 855, .int (472) 0, .int (1) 0, .int (0) 0, .int (0) 0, .int (3) 0, R 490, .bool true, .int (181) 0, R 491, .none, R 492, R 493, R 494, .int (866) 0, .int (472) 0, S "/claim/cut.py" 867]),
  (496, fO 92 "law_xw0039_01" 816 495)]
end Mine
end
section
open PySem PySem.W PySem.W.X PyProof.Rows PySem.Calls
set_option maxRecDepth 1000000
set_option maxHeartbeats 0
namespace Mine
noncomputable def asK : List Addr := [1, 3, 40, 41, 47, 48, 54, 55, 61, 62, 68, 69, 75, 76, 82, 83, 89, 90, 96, 97, 103, 104, 112, 113, 119, 120, 126, 127, 133, 134, 140, 141, 147, 148, 154, 155, 161, 162, 168, 169, 175, 176, 182, 183, 187, 188, 189, 195, 196, 202, 203, 207, 208, 214, 215, 221, 222, 228, 229, 235, 236, 242, 243, 249, 250, 256, 257, 263, 264, 270, 271, 105, 106, 272, 273, 274, 275, 276, 277, 278, 284, 285, 291, 292, 298, 299, 305, 306, 310, 311, 317, 318, 324, 325, 331, 332, 336, 337, 343, 344, 350, 351, 357, 358, 364, 365, 369, 370, 376, 377, 383, 384, 390, 391, 397, 398, 402, 403, 409, 410, 416, 417, 421, 422, 426, 427, 431, 432, 436, 437, 441, 442, 448, 449, 453, 454, 460, 461, 467, 468, 474, 475, 481, 482, 488, 489, 495, 496]
noncomputable def looseK : List Str := [Str.ofString "CasFail", Str.ofString "gcd", Str.ofString "bits_of", Str.ofString "least_divisor", Str.ofString "prime_factors", Str.ofString "MOST_BITS", Str.ofString "rat", Str.ofString "radd", Str.ofString "rmul", Str.ofString "rinv", Str.ofString "rpower", Str.ofString "rfloor", Str.ofString "T_ZERO", Str.ofString "T_ONE", Str.ofString "MOST_NARROW", Str.ofString "t_num", Str.ofString "t_sym", Str.ofString "t_sum", Str.ofString "t_prod", Str.ofString "t_pow", Str.ofString "t_call", Str.ofString "is_num", Str.ofString "num_of", Str.ofString "is_whole_num", Str.ofString "inner_terms", Str.ofString "with_inner", Str.ofString "is_too_great", Str.ofString "RANKS", Str.ofString "sign_between", Str.ofString "compare_values", Str.ofString "bare_factors", Str.ofString "front_value", Str.ofString "base_and_exponent", Str.ofString "compare_rows", Str.ofString "compare_exponents", Str.ofString "compare_bases", Str.ofString "compare_factors", Str.ofString "compare_terms", Str.ofString "merged_terms", Str.ofString "sort_terms", Str.ofString "ZERO", Str.ofString "ONE", Str.ofString "MINUS_ONE", Str.ofString "HALF", Str.ofString "EXP_ONE", Str.ofString "MOST_FACTORED", Str.ofString "MOST_FACTORIAL", Str.ofString "ODD_CALLS", Str.ofString "number_term", Str.ofString "number_and_rest", Str.ofString "with_number", Str.ofString "flat_parts", Str.ofString "gathered_sum", Str.ofString "is_one_call", Str.ofString "as_power", Str.ofString "gathered_product", Str.ofString "power_of", Str.ofString "split_power", Str.ofString "number_power", Str.ofString "radical_of", Str.ofString "begins_below", Str.ofString "negated_term", Str.ofString "exp_of", Str.ofString "log_of", Str.ofString "factorial_of", Str.ofString "call_of", Str.ofString "simplify", Str.ofString "MOST_LEVELS", Str.ofString "MOST_TERMS", Str.ofString "MOST_RAW", Str.ofString "has_own_letter", Str.ofString "has_root_letter", Str.ofString "open_letters", Str.ofString "sum_replaced", Str.ofString "replaced", Str.ofString "has_ratio", Str.ofString "settled", Str.ofString "substitute", Str.ofString "substitute_all", Str.ofString "_law_i", Str.ofString "_law_j", Str.ofString "_law_n", Str.ofString "_law_take", Str.ofString "_law_over"]
abbrev pK : Program := PySem.Challenge.pw_xw0039_01
noncomputable def qK : Program := view pK [92]
noncomputable def rowK : String := "special-get-raises"
noncomputable def xtK (s : Shared) : Bool := recOk [] s
theorem both {σ α β : Type} {o : Option σ} {f : σ → Option α} {g : σ → Option β} {a : α} {b : β} (h1 : o.map f = some (some a)) (h2 : o.map g = some (some b)) : o.map (fun s => (f s, g s)) = some (some a, some b) := by
  cases o with
  | none => cases h1
  | some x =>
    simp only [Option.map_some, Option.some.injEq] at h1 h2 ⊢
    rw [h1, h2]
theorem hlF (w : World) : ((fencedOpening treeTable pK w 5420).map fun s₀ => (topFrom treeTable pK (w.withFollow rowK false) 5420 s₀).map fun s => (openSeen qK looseK (importedModules pK.main.body) xtK true s, obsZ asK s)) = some (some (openGood qK looseK, valZ KK 497 869 (w.withFollow rowK false))) := by
  unfold fencedOpening topFrom
  simp only [PySem.W.Fast.te14082659384304107361, PySem.W.Fast.te10274390034422433532, PySem.W.Fast.te14289696077712309145, PySem.W.Fast.te14364793385576792824, PySem.W.Fast.te1435165496053646825, PySem.W.Fast.te4187177175401517315]
  kernel_rfl
theorem hlT (w : World) : ((fencedOpening treeTable pK w 5420).map fun s₀ => (topFrom treeTable pK (w.withFollow rowK true) 5420 s₀).map fun s => (openSeen qK looseK (importedModules pK.main.body) xtK true s, obsZ asK s)) = some (some (openGood qK looseK, valZ KK 497 869 (w.withFollow rowK true))) := by
  unfold fencedOpening topFrom
  simp only [PySem.W.Fast.te14082659384304107361, PySem.W.Fast.te10274390034422433532, PySem.W.Fast.te14289696077712309145, PySem.W.Fast.te14364793385576792824, PySem.W.Fast.te1435165496053646825, PySem.W.Fast.te4187177175401517315]
  kernel_rfl
end Mine
end
section
open PySem PySem.W PySem.W.X PyProof.Rows
set_option maxRecDepth 1000000
set_option maxHeartbeats 0
namespace Mine
theorem glob_top {K : Frag} {h : Heap} {p : Program} {loose : List Str} {mg mb : Str → Option Value} (X : K.In h) (T : TopRead p loose mg mb h)
    (c3 : ∃ o es n, lkA K mainGlobals = some o ∧ o.data = .dict es n) (x : Str) : glob K x = mg x := by
  have get : ∀ {a o}, lkA K a = some o → h.get? a = some o := fun e => X _ _ (by rw [← lkA_eq]; exact e)
  obtain ⟨o, es, n, e, hd⟩ := c3
  obtain ⟨o', es', ep, ho, hd', hs, hf⟩ := T.g
  rw [get e] at ho
  cases ho
  rw [hd] at hd'
  cases hd'
  unfold glob
  rw [e]
  simp only [hd]
  rw [← hf x, ← lkE_find fun e m => hs e (Array.mem_toList_iff.mp m)]
  unfold nsFind findBy
  rw [← Array.find?_toList]
theorem fa_of {K : Frag} {h : Heap} {p : Program} {loose : List Str} {mg mb : Str → Option Value} (X : K.In h) (T : TopRead p loose mg mb h)
    (c3 : ∃ o es n, lkA K mainGlobals = some o ∧ o.data = .dict es n) {x : Str} {a b : Addr} (hm : mg x = some (.ref a)) (e : glob K x = some (.ref b)) : a = b := by
  rw [glob_top X T c3 x, hm] at e
  cases e
  rfl
theorem ck1 (P : Params) : tupB (KK P) = true := by kernel_rfl
theorem ck2 (P : Params) : fnsB (KK P) (KK P) = true := by kernel_rfl
theorem ck3 (P : Params) : ∃ o es n, lkA (KK P) mainGlobals = some o ∧ o.data = .dict es n := ⟨_, _, _, rfl, rfl⟩
theorem ck4 (P : Params) : ∃ es n, (KK P).lookup rkA = some ⟨.type "dict", none, .dict es n, #[]⟩ ∧ KeysLit P es.toList := by
  refine ⟨_, _, rfl, ?_⟩
  repeat' (refine And.intro ⟨_, _, rfl, rfl⟩ ?_)
  exact trivial
theorem ck5 (P : Params) : ∃ o, lkA (KK P) sysModules = some o := ⟨_, rfl⟩
theorem ckA (P : Params) : glob (KK P) (Str.ofString "law") = some (.ref 496) := by kernel_rfl
theorem ckZ (P : Params) : zero (KK P) = true := by kernel_rfl
theorem ckO0 (P : Params) : one (KK P) 0 = true := by kernel_rfl
theorem ckO1 (P : Params) : one (KK P) 1 = true := by kernel_rfl
theorem ckO2 (P : Params) : one (KK P) 2 = true := by kernel_rfl
theorem ckT00 (P : Params) : two (KK P) 0 0 = true := by kernel_rfl
theorem ckT01 (P : Params) : two (KK P) 0 1 = true := by kernel_rfl
theorem ckT02 (P : Params) : two (KK P) 0 2 = true := by kernel_rfl
theorem ckT03 (P : Params) : two (KK P) 0 3 = true := by kernel_rfl
theorem ckT10 (P : Params) : two (KK P) 1 0 = true := by kernel_rfl
theorem ckT11 (P : Params) : two (KK P) 1 1 = true := by kernel_rfl
theorem ckT12 (P : Params) : two (KK P) 1 2 = true := by kernel_rfl
theorem ckT13 (P : Params) : two (KK P) 1 3 = true := by kernel_rfl
theorem ckT20 (P : Params) : two (KK P) 2 0 = true := by kernel_rfl
theorem ckT21 (P : Params) : two (KK P) 2 1 = true := by kernel_rfl
theorem ckT22 (P : Params) : two (KK P) 2 2 = true := by kernel_rfl
theorem ckT23 (P : Params) : two (KK P) 2 3 = true := by kernel_rfl
theorem ckF000 (P : Params) : four (KK P) 0 0 0 = true := by kernel_rfl
theorem ckF001 (P : Params) : four (KK P) 0 0 1 = true := by kernel_rfl
theorem ckF010 (P : Params) : four (KK P) 0 1 0 = true := by kernel_rfl
theorem ckF011 (P : Params) : four (KK P) 0 1 1 = true := by kernel_rfl
theorem ckF020 (P : Params) : four (KK P) 0 2 0 = true := by kernel_rfl
theorem ckF021 (P : Params) : four (KK P) 0 2 1 = true := by kernel_rfl
theorem ckF030 (P : Params) : four (KK P) 0 3 0 = true := by kernel_rfl
theorem ckF031 (P : Params) : four (KK P) 0 3 1 = true := by kernel_rfl
theorem ckF100 (P : Params) : four (KK P) 1 0 0 = true := by kernel_rfl
theorem ckF101 (P : Params) : four (KK P) 1 0 1 = true := by kernel_rfl
theorem ckF110 (P : Params) : four (KK P) 1 1 0 = true := by kernel_rfl
theorem ckF111 (P : Params) : four (KK P) 1 1 1 = true := by kernel_rfl
theorem ckF120 (P : Params) : four (KK P) 1 2 0 = true := by kernel_rfl
theorem ckF121 (P : Params) : four (KK P) 1 2 1 = true := by kernel_rfl
theorem ckF130 (P : Params) : four (KK P) 1 3 0 = true := by kernel_rfl
theorem ckF131 (P : Params) : four (KK P) 1 3 1 = true := by kernel_rfl
theorem ckF200 (P : Params) : four (KK P) 2 0 0 = true := by kernel_rfl
theorem ckF201 (P : Params) : four (KK P) 2 0 1 = true := by kernel_rfl
theorem ckF210 (P : Params) : four (KK P) 2 1 0 = true := by kernel_rfl
theorem ckF211 (P : Params) : four (KK P) 2 1 1 = true := by kernel_rfl
theorem ckF220 (P : Params) : four (KK P) 2 2 0 = true := by kernel_rfl
theorem ckF221 (P : Params) : four (KK P) 2 2 1 = true := by kernel_rfl
theorem ckF230 (P : Params) : four (KK P) 2 3 0 = true := by kernel_rfl
theorem ckF231 (P : Params) : four (KK P) 2 3 1 = true := by kernel_rfl
theorem ckW000 (P : Params) : whole (KK P) 600 (canon 0 0 0) = true := by kernel_rfl
theorem ckW001 (P : Params) : whole (KK P) 600 (canon 0 0 1) = true := by kernel_rfl
theorem ckW010 (P : Params) : whole (KK P) 600 (canon 0 1 0) = true := by kernel_rfl
theorem ckW011 (P : Params) : whole (KK P) 600 (canon 0 1 1) = true := by kernel_rfl
theorem ckW020 (P : Params) : whole (KK P) 600 (canon 0 2 0) = true := by kernel_rfl
theorem ckW021 (P : Params) : whole (KK P) 600 (canon 0 2 1) = true := by kernel_rfl
theorem ckW030 (P : Params) : whole (KK P) 600 (canon 0 3 0) = true := by kernel_rfl
theorem ckW031 (P : Params) : whole (KK P) 600 (canon 0 3 1) = true := by kernel_rfl
theorem ckW100 (P : Params) : whole (KK P) 600 (canon 1 0 0) = true := by kernel_rfl
theorem ckW101 (P : Params) : whole (KK P) 600 (canon 1 0 1) = true := by kernel_rfl
theorem ckW110 (P : Params) : whole (KK P) 600 (canon 1 1 0) = true := by kernel_rfl
theorem ckW111 (P : Params) : whole (KK P) 600 (canon 1 1 1) = true := by kernel_rfl
theorem ckW120 (P : Params) : whole (KK P) 600 (canon 1 2 0) = true := by kernel_rfl
theorem ckW121 (P : Params) : whole (KK P) 600 (canon 1 2 1) = true := by kernel_rfl
theorem ckW130 (P : Params) : whole (KK P) 600 (canon 1 3 0) = true := by kernel_rfl
theorem ckW131 (P : Params) : whole (KK P) 600 (canon 1 3 1) = true := by kernel_rfl
theorem ckW200 (P : Params) : whole (KK P) 600 (canon 2 0 0) = true := by kernel_rfl
theorem ckW210 (P : Params) : whole (KK P) 600 (canon 2 1 0) = true := by kernel_rfl
theorem ckW220 (P : Params) : whole (KK P) 600 (canon 2 2 0) = true := by kernel_rfl
theorem ckW230 (P : Params) : whole (KK P) 600 (canon 2 3 0) = true := by kernel_rfl
theorem ck_whole (P : Params) (ns : List Int) : whole (KK P) 600 (absOf ns) = true :=
  all_whole (ckZ P) (below3 (ckO0 P) (ckO1 P) (ckO2 P))
    (below3 (below4 (ckT00 P) (ckT01 P) (ckT02 P) (ckT03 P)) (below4 (ckT10 P) (ckT11 P) (ckT12 P) (ckT13 P)) (below4 (ckT20 P) (ckT21 P) (ckT22 P) (ckT23 P)))
    (below3 (below4 (below2 (ckF000 P) (ckF001 P)) (below2 (ckF010 P) (ckF011 P)) (below2 (ckF020 P) (ckF021 P)) (below2 (ckF030 P) (ckF031 P))) (below4 (below2 (ckF100 P) (ckF101 P)) (below2 (ckF110 P) (ckF111 P)) (below2 (ckF120 P) (ckF121 P)) (below2 (ckF130 P) (ckF131 P))) (below4 (below2 (ckF200 P) (ckF201 P)) (below2 (ckF210 P) (ckF211 P)) (below2 (ckF220 P) (ckF221 P)) (below2 (ckF230 P) (ckF231 P))))
    (below3 (below4 (below2 (ckW000 P) (ckW001 P)) (below2 (ckW010 P) (ckW011 P)) (below2 (ckW020 P) (ckW021 P)) (below2 (ckW030 P) (ckW031 P))) (below4 (below2 (ckW100 P) (ckW101 P)) (below2 (ckW110 P) (ckW111 P)) (below2 (ckW120 P) (ckW121 P)) (below2 (ckW130 P) (ckW131 P))) (below4 (below2 (ckW200 P) (ckW200 P)) (below2 (ckW210 P) (ckW210 P)) (below2 (ckW220 P) (ckW220 P)) (below2 (ckW230 P) (ckW230 P))))
    ns
end Mine
end
open PySem PySem.W PySem.W.X PyProof.Rows PySem.Calls
set_option maxRecDepth 100000
set_option maxHeartbeats 0
open Mine
theorem PySem.Challenge.cw_xw0039_01_holds : PySem.Challenge.rw_xw0039_01.Holds := by
  w_on
  refine holds_law (by kernel_rfl) fun said => ?_
  refine holds_openX (q := qK) (loose := looseK) (Xt := xtK) (XP := fun _ _ => True) (Yf := obsZ asK) (Ya := valZ KK 497 869) (N := 5420) (LeftO.of_split rowK fun w => both (hlF w) (hlT w)) (fun _ _ => trivial) (fun _ _ _ _ _ => trivial) (by rfl) (by rfl) (by rfl) (fun s e => recFacts_of e) rfl said (by decide +kernel) ⟨rfl, rfl, rfl, rfl, rfl, by decide +kernel⟩ ?hw ?hc
  case hw => w_witness2
  case hc =>
    intro w s₀ s₁ mg mb G y fa o pm cd doc dV kV ho hd hcd hD hmg hg args vals as L hpre hlay hrd hwl hlo
    refine Ground.open G ?_
    intro T B D TE TW
    wrow_args hpre hlay hrd hwl hlo
    all_lens
    clear ho hd
    have KX : (KK w.params).In s₁.heap := InK.keeps w _ _ (z_facts (K := KK) (fun P => (rfl : asK = (KK P).map (·.1))) y).2.1 L.keeps
    have hfa := fa_of KX (topRead_of T) (ck3 w.params) hmg (ckA w.params)
    subst hfa
    exact fin_ok (bs_of KX (topRead_of T) (ck1 w.params) (ck2 w.params) (ck3 w.params) (ck4 w.params) (ck5 w.params)) (ck_whole w.params) (by assumption) (by assumption) (by assumption) hg (fun _ => rfl) (by first | rfl | wrow_post)
