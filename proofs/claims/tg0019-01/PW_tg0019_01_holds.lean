import PyProof.Rows.All
import Wide.All
import OpenK.AllK
import Wide.FinOn
import PyProof.TableCode
import PySem.Challenge.RW_tg0019_01
set_option Elab.async false
set_option linter.all false
set_option autoImplicit false
set_option maxRecDepth 100000
set_option genInjectivity false
set_option genSizeOf false
namespace Mine
open PySem
inductive V where
  | none
  | bool (b : Bool)
  | int (i : Int)
  | str (x : List Nat)
  | obj (n : Nat)
  | tup (vs : List V)
  | range (a b c : Int)
inductive AO where
  | list (vs : List V)
  | inst (c : Nat) (fs : List (Nat × V))
  | dict (fs : List (Nat × V))
noncomputable abbrev AH := List AO
noncomputable abbrev LE := List (Option V)
inductive BI where
  | len | range | str | int
inductive ME where
  | append | extend | find | split | join | lower | upper
mutual
inductive IE where
  | cst (v : V)
  | var (k : Nat)
  | tab (xs : List Int) (i : IE)
  | bin (op : Operator) (a b : IE)
  | neg (a : IE)
  | inv (a : IE)
  | not (a : IE)
  | ife (t : IT) (a b : IE)
  | cmp (a : IE) (cs : ICs)
  | bop (and : Bool) (a b : IE)
  | attr (e : IE) (a : Nat)
  | sub (e i : IE)
  | dsub (e : IE) (k : Nat)
  | slice (e lo hi : IE)
  | rev (e : IE)
  | list (es : IEs)
  | tup (es : IEs)
  | dict (ks : List Nat) (es : IEs)
  | call (f : Nat) (es : IEs)
  | new (c : Nat) (es : IEs)
  | bi (b : BI) (es : IEs)
  | meth (m : ME) (e : IE) (es : IEs)
  | comp (k : Nat) (src : IE) (ifs : ITs) (elt : IE)
inductive IEs where
  | nil
  | cons (e : IE) (es : IEs)
inductive ICs where
  | one (op : CmpOp) (e : IE)
  | cons (op : CmpOp) (e : IE) (cs : ICs)
inductive IT where
  | val (e : IE)
  | not (t : IT)
  | bop (and : Bool) (a b : IT)
  | cmp (a : IE) (cs : ICs)
inductive ITs where
  | nil
  | cons (t : IT) (ts : ITs)
end
mutual
inductive IS where
  | asg (k : Nat) (e : IE)
  | asgA (o : IE) (a : Nat) (e : IE)
  | asgS (o i : IE) (e : IE)
  | unp (ks : List Nat) (e : IE)
  | unpA (ts : List (Nat × Nat)) (e : IE)
  | aug (k : Nat) (op : Operator) (e : IE)
  | augA (o : IE) (a : Nat) (op : Operator) (e : IE)
  | augS (o i : IE) (op : Operator) (e : IE)
  | augD (o : IE) (key : Nat) (op : Operator) (e : IE)
  | ife (t : IT) (a b : ISs)
  | for_ (k : Nat) (e : IE) (body : ISs)
  | forT (ks : List Nat) (e : IE) (body : ISs)
  | while_ (fuel : Nat) (t : IT) (body : ISs)
  | ret (e : IE)
  | retN
  | exp (e : IE)
  | cont
  | try_ (body : ISs)
  | raise_
inductive ISs where
  | nil
  | cons (s : IS) (r : ISs)
end
inductive Fl where
  | next | brk | cont
  | ret (v : V)
noncomputable def getF (a : Nat) : List (Nat × V) → Option V
  | [] => Option.none
  | (b, v) :: r => if b = a then some v else getF a r
noncomputable def putF (a : Nat) (v : V) : List (Nat × V) → List (Nat × V)
  | [] => [(a, v)]
  | (b, w) :: r => if b = a then (b, v) :: r else (b, w) :: putF a v r
noncomputable def bitsOk (x : Int) : Bool := decide (x.natAbs < 2 ^ 64)
noncomputable def intBin (op : Operator) (x y : Int) : Option Int :=
  match op with
  | .Add => some (x + y)
  | .Sub => some (x - y)
  | .Mult => if bitsOk x && bitsOk y then some (x * y) else Option.none
  | .FloorDiv => if decide (y ≠ 0) && bitsOk x && bitsOk y then some (x.fdiv y) else Option.none
  | .Mod => if decide (y ≠ 0) then some (x.fmod y) else Option.none
  | .Pow => if decide (0 ≤ y) && decide (y ≤ 1000) && bitsOk x then some (x ^ y.toNat) else Option.none
  | .LShift => if decide (0 ≤ y) && decide (y ≤ 1000) && bitsOk x then some (x * 2 ^ y.toNat) else Option.none
  | .RShift => if decide (0 ≤ y) then some (x.fdiv (2 ^ y.toNat)) else Option.none
  | .BitOr => some (Builtin.bitOr x y)
  | .BitXor => some (Builtin.bitXor x y)
  | .BitAnd => some (Builtin.bitAnd x y)
  | _ => Option.none
noncomputable def repL (vs : List V) : Nat → List V
  | 0 => []
  | n + 1 => vs ++ repL vs n
noncomputable def lineL : Nat := 100000
noncomputable def binV (op : Operator) (x y : V) (σ : AH) : Option (V × AH) :=
  match x, y with
  | .int a, .int b => (intBin op a b).map fun z => (.int z, σ)
  | .str a, .str b => match op with
    | .Add => if a.length + b.length ≤ lineL then some (.str (a ++ b), σ) else Option.none
    | _ => Option.none
  | .obj n, .int b => match op, σ[n]? with
    | .Mult, some (.list vs) => if -1000 ≤ b ∧ b ≤ 1000 ∧ vs.length ≤ 100 then some (.obj σ.length, σ ++ [.list (repL vs b.toNat)]) else Option.none
    | _, _ => Option.none
  | _, _ => Option.none
noncomputable def augV (op : Operator) (x y : V) (σ : AH) : Option (V × AH) :=
  match x, y with
  | .int a, .int b => (intBin op a b).map fun z => (.int z, σ)
  | .str a, .str b => match op with
    | .Add => if a.length + b.length ≤ lineL then some (.str (a ++ b), σ) else Option.none
    | _ => Option.none
  | _, _ => Option.none
noncomputable def intsOf : List V → Option (List Int)
  | [] => some []
  | .int i :: r => (intsOf r).map (i :: ·)
  | _ :: _ => Option.none
noncomputable def strsOf : List V → Option (List (List Nat))
  | [] => some []
  | .str x :: r => (strsOf r).map (x :: ·)
  | _ :: _ => Option.none
noncomputable def listAt (σ : AH) (n : Nat) : Option (List V) := match σ[n]? with
  | some (.list vs) => some vs
  | _ => Option.none
noncomputable def cmpInt (op : CmpOp) (x y : Int) : Option Bool := match op with
  | .Eq => some (decide (x = y))
  | .NotEq => some (!decide (x = y))
  | .Lt => some (decide (x < y))
  | .LtE => some (decide (x ≤ y))
  | .Gt => some (decide (y < x))
  | .GtE => some (decide (y ≤ x))
  | _ => Option.none
noncomputable def isNone : V → Bool
  | .none => true
  | _ => false
noncomputable def isIs : CmpOp → Bool
  | .Is => true
  | _ => false
noncomputable def cmpW (op : CmpOp) (x y : V) (σ : AH) : Option Bool :=
    match x, y with
    | .int a, .int b => cmpInt op a b
    | .str a, .str b => (match op with
      | .Eq => some (decide (a = b))
      | .NotEq => some (!decide (a = b))
      | .In => (match a with
        | [c] => some (b.contains c)
        | _ => Option.none)
      | _ => Option.none)
    | .obj n, .obj m => (match (listAt σ n).bind intsOf, (listAt σ m).bind intsOf with
      | some a, some b => (match op with
        | .Eq => some (decide (a = b))
        | .NotEq => some (!decide (a = b))
        | _ => Option.none)
      | _, _ => Option.none)
    | _, _ => Option.none
noncomputable def cmpV (op : CmpOp) (x y : V) (σ : AH) : Option Bool := match isIs op && isNone y with
  | true => some (isNone x)
  | false => cmpW op x y σ
noncomputable def truthV : V → Option Bool
  | .none => some false
  | .bool b => some b
  | .int i => some (!decide (i = 0))
  | _ => Option.none
noncomputable def subV (o i : V) (σ : AH) : Option V :=
  match i with
  | .int k => if 0 ≤ k ∧ k < 100000 then (match o with
    | .obj n => (listAt σ n).bind fun vs => vs[k.toNat]?
    | .tup vs => vs[k.toNat]?
    | .str x => (x[k.toNat]?).map fun c => .str [c]
    | _ => Option.none) else Option.none
  | _ => Option.none
noncomputable def idxV : V → Option (Option Nat)
  | .none => some Option.none
  | .int k => if 0 ≤ k ∧ k < 100000 then some (some k.toNat) else Option.none
  | _ => Option.none
noncomputable def cutL {α : Type} (vs : List α) (lo hi : Option Nat) : List α :=
  let l := lo.getD 0
  let h := hi.getD vs.length
  (vs.take h).drop l
noncomputable def sliceV (o lo hi : V) (σ : AH) : Option (V × AH) :=
  match o, idxV lo, idxV hi with
  | .obj n, some l, some h => (listAt σ n).bind fun vs => if vs.length ≤ lineL then some (.obj σ.length, σ ++ [.list (cutL vs l h)]) else Option.none
  | _, _, _ => Option.none
noncomputable def revV (o : V) (σ : AH) : Option (V × AH) :=
  match o with
  | .obj n => (listAt σ n).bind fun vs => if vs.length ≤ lineL then some (.obj σ.length, σ ++ [.list vs.reverse]) else Option.none
  | _ => Option.none
noncomputable def attrV (o : V) (a : Nat) (σ : AH) : Option V :=
  match o with
  | .obj n => (match σ[n]? with
    | some (.inst _ fs) => getF a fs
    | _ => Option.none)
  | _ => Option.none
noncomputable def setAttrV (o : V) (a : Nat) (v : V) (σ : AH) : Option AH :=
  match o with
  | .obj n => (match σ[n]? with
    | some (.inst c fs) => if fs.length < 100 then some (σ.set n (.inst c (putF a v fs))) else Option.none
    | _ => Option.none)
  | _ => Option.none
noncomputable def setSubV (o i : V) (v : V) (σ : AH) : Option AH :=
  match o, i with
  | .obj n, .int k => (match σ[n]? with
    | some (.list vs) => if 0 ≤ k ∧ k.toNat < vs.length ∧ k < 100000 then some (σ.set n (.list (vs.set k.toNat v))) else Option.none
    | _ => Option.none)
  | _, _ => Option.none
noncomputable def dsubV (o : V) (a : Nat) (σ : AH) : Option V :=
  match o with
  | .obj n => (match σ[n]? with
    | some (.dict fs) => getF a fs
    | _ => Option.none)
  | _ => Option.none
noncomputable def setKeyV (o : V) (a : Nat) (v : V) (σ : AH) : Option AH :=
  match o with
  | .obj n => (match σ[n]? with
    | some (.dict fs) => (match getF a fs with
      | some _ => some (σ.set n (.dict (putF a v fs)))
      | Option.none => Option.none)
    | _ => Option.none)
  | _ => Option.none
noncomputable def asciiL (x : List Nat) : Bool := x.all fun c => decide (c < 128)
noncomputable def bitsS (x : Int) : Bool := decide (x.natAbs < 2 ^ 20)
noncomputable def rangeN (a b c : Int) : Nat := if c = 1 then (b - a).toNat else (a - b).toNat
noncomputable def rangeOk (a b c : Int) : Bool := bitsS a && bitsS b && decide (c = 1 ∨ c = -1)
noncomputable def lenIt (o : V) (σ : AH) : Option Nat :=
  match o with
  | .obj n => (listAt σ n).map List.length
  | .tup vs => some vs.length
  | .str x => if asciiL x then some x.length else Option.none
  | .range a b c => if rangeOk a b c then some (rangeN a b c) else Option.none
  | _ => Option.none
noncomputable def itemAt (o : V) (i : Nat) (σ : AH) : Option (Option V) :=
  match o with
  | .obj n => (listAt σ n).map fun vs => vs[i]?
  | .tup vs => some vs[i]?
  | .str x => if asciiL x then some ((x[i]?).map fun c => .str [c]) else Option.none
  | .range a b c => if rangeOk a b c then some (if i < rangeN a b c then some (.int (a + (i : Int) * c)) else Option.none) else Option.none
  | _ => Option.none
noncomputable def intText (i : Int) : List Nat := (Str.ofString (toString i)).cps.toList
noncomputable def one {α : Type} : List α → Option α
  | a :: r => if r.isEmpty = true then some a else none
  | [] => none
noncomputable def biV (b : BI) (vs : List V) (σ : AH) : Option (V × AH) :=
  match b with
  | .len => (one vs).bind fun v => (match v with
    | .obj n => (listAt σ n).bind fun xs => if xs.length ≤ lineL then some (.int xs.length, σ) else Option.none
    | .str x => if x.length ≤ lineL then some (.int x.length, σ) else Option.none
    | _ => Option.none)
  | .range => (intsOf vs).bind fun is => (match is with
    | [] => Option.none
    | a :: r => (match r with
      | [] => if bitsOk a then some (.range 0 a 1, σ) else Option.none
      | n :: r => (match r with
        | [] => if bitsOk a && bitsOk n then some (.range a n 1, σ) else Option.none
        | c :: r => if bitsOk a && bitsOk n && decide (c = 1 ∨ c = -1) && r.isEmpty then some (.range a n c, σ) else Option.none)))
  | .str => (one vs).bind fun v => (match v with
    | .int i => if 0 ≤ i ∧ i < 1000000 then some (.str (intText i), σ) else Option.none
    | _ => Option.none)
  | .int => (one vs).bind fun v => (match v with
    | .bool b => some (.int (if b then 1 else 0), σ)
    | .str x => (one x).bind fun c => if 48 ≤ c ∧ c ≤ 57 then some (.int ((c : Int) - 48), σ) else Option.none
    | _ => Option.none)
noncomputable def findL (c : Nat) : List Nat → Nat → Int
  | [], _ => -1
  | d :: r, i => if d = c then (i : Int) else findL c r (i + 1)
noncomputable def splitL (c : Nat) : List Nat → List (List Nat)
  | [] => [[]]
  | d :: r => if d = c then [] :: splitL c r else (match splitL c r with
    | [] => [[d]]
    | x :: xs => (d :: x) :: xs)
noncomputable def joinL (sep : List Nat) : List (List Nat) → List Nat
  | [] => []
  | [x] => x
  | x :: y :: r => x ++ sep ++ joinL sep (y :: r)
noncomputable def lowL (c : Nat) : Nat := if 65 ≤ c ∧ c ≤ 90 then c + 32 else c
noncomputable def uppL (c : Nat) : Nat := if 97 ≤ c ∧ c ≤ 122 then c - 32 else c
noncomputable def methV (m : ME) (o : V) (vs : List V) (σ : AH) : Option (V × AH) :=
  match m with
  | .append => (match o with
    | .obj n => (one vs).bind fun v => (listAt σ n).bind fun xs => if xs.length ≤ lineL then some (.none, σ.set n (.list (xs ++ [v]))) else Option.none
    | _ => Option.none)
  | .extend => (match o with
    | .obj n => (one vs).bind fun v => (match v with
      | .obj k => if n = k then Option.none else (listAt σ n).bind fun xs => (listAt σ k).bind fun ys =>
        if xs.length ≤ lineL ∧ ys.length ≤ lineL then some (.none, σ.set n (.list (xs ++ ys))) else Option.none
      | _ => Option.none)
    | _ => Option.none)
  | .find => (match o with
    | .str x => (one vs).bind fun v => (match v with
      | .str y => (one y).bind fun c => if x.length ≤ lineL then some (.int (findL c x 0), σ) else Option.none
      | _ => Option.none)
    | _ => Option.none)
  | .split => (match o with
    | .str x => (one vs).bind fun v => (match v with
      | .str y => (one y).bind fun c => if x.length ≤ lineL then some (.obj σ.length, σ ++ [.list ((splitL c x).map .str)]) else Option.none
      | _ => Option.none)
    | _ => Option.none)
  | .join => (match o with
    | .str s => (one vs).bind fun v => (match v with
      | .obj n => (listAt σ n).bind fun ws => (strsOf ws).bind fun xs => if (joinL s xs).length ≤ lineL ∧ xs.length ≤ lineL ∧ s.length ≤ 16 then some (.str (joinL s xs), σ) else Option.none
      | _ => Option.none)
    | _ => Option.none)
  | .lower => (match o with
    | .str x => (one x).bind fun c => if c < 128 ∧ vs.isEmpty = true then some (.str [lowL c], σ) else Option.none
    | _ => Option.none)
  | .upper => (match o with
    | .str x => (one x).bind fun c => if c < 128 ∧ vs.isEmpty = true then some (.str [uppL c], σ) else Option.none
    | _ => Option.none)
noncomputable def lstOk (o : V) (σ : AH) : Bool := match o with
  | .obj n => (listAt σ n).isSome
  | _ => true
section
variable (init : Nat → Nat) (F : Nat → List V → AH → Option (V × AH))
noncomputable def compN (k : Nat) (t : LE → AH → Option (Bool × AH)) (e : LE → AH → Option (V × AH)) (o : V) : Nat → Nat → LE → AH → Option (List V × AH)
  | 0, _, _, _ => Option.none
  | f + 1, i, env, σ => (itemAt o i σ).bind fun r => match r with
    | Option.none => some ([], σ)
    | some v => (t (env.set k (some v)) σ).bind fun p => match p.1 with
      | true => (e (env.set k (some v)) p.2).bind fun q => (compN k t e o f (i + 1) env q.2).bind fun l => some (q.1 :: l.1, l.2)
      | false => compN k t e o f (i + 1) env p.2
mutual
noncomputable def evE : IE → LE → AH → Option (V × AH)
  | .cst v, _, σ => some (v, σ)
  | .var k, env, σ => (env[k]?.join).map fun v => (v, σ)
  | .tab xs i, env, σ => (evE i env σ).bind fun p => match p.1 with
    | .int k => if 0 ≤ k ∧ k < 100000 then (xs[k.toNat]?).map fun z => (.int z, p.2) else Option.none
    | _ => Option.none
  | .bin op a b, env, σ => (evE a env σ).bind fun p => (evE b env p.2).bind fun q => binV op p.1 q.1 q.2
  | .neg a, env, σ => (evE a env σ).bind fun p => match p.1 with
    | .int i => some (.int (-i), p.2)
    | _ => Option.none
  | .inv a, env, σ => (evE a env σ).bind fun p => match p.1 with
    | .int i => some (.int (Builtin.bitNot i), p.2)
    | _ => Option.none
  | .not a, env, σ => (evE a env σ).bind fun p => (truthV p.1).map fun b => (.bool (!b), p.2)
  | .ife t a b, env, σ => (evT t env σ).bind fun p => match p.1 with
    | true => evE a env p.2
    | false => evE b env p.2
  | .cmp a cs, env, σ => (evE a env σ).bind fun p => (evC cs p.1 env p.2).map fun q => (.bool q.1, q.2)
  | .bop and a b, env, σ => (evE a env σ).bind fun p => (truthV p.1).bind fun c => match c == and with
    | true => evE b env p.2
    | false => some p
  | .attr e a, env, σ => (evE e env σ).bind fun p => (attrV p.1 a p.2).map fun v => (v, p.2)
  | .sub e i, env, σ => (evE e env σ).bind fun p => (evE i env p.2).bind fun q => (subV p.1 q.1 q.2).map fun v => (v, q.2)
  | .dsub e k, env, σ => (evE e env σ).bind fun p => (dsubV p.1 k p.2).map fun v => (v, p.2)
  | .slice e lo hi, env, σ => (evE e env σ).bind fun p => (evE lo env p.2).bind fun q => (evE hi env q.2).bind fun r => sliceV p.1 q.1 r.1 r.2
  | .rev e, env, σ => (evE e env σ).bind fun p => revV p.1 p.2
  | .list es, env, σ => (evEs es env σ).bind fun p => if p.1.length ≤ 1000 then some (.obj p.2.length, p.2 ++ [.list p.1]) else Option.none
  | .tup es, env, σ => (evEs es env σ).bind fun p => if p.1.length ≤ 1000 then some (.tup p.1, p.2) else Option.none
  | .dict ks es, env, σ => (evEs es env σ).bind fun p => if p.1.length = ks.length then some (.obj p.2.length, p.2 ++ [.dict (ks.zip p.1)]) else Option.none
  | .call f es, env, σ => (evEs es env σ).bind fun p => F f p.1 p.2
  | .new c es, env, σ => (evEs es env σ).bind fun p => (F (init c) (.obj p.2.length :: p.1) (p.2 ++ [.inst c []])).bind fun q => match q.1 with
    | .none => some (.obj p.2.length, q.2)
    | _ => Option.none
  | .bi b es, env, σ => (evEs es env σ).bind fun p => biV b p.1 p.2
  | .meth m e es, env, σ => (evE e env σ).bind fun p => match lstOk p.1 p.2 with
    | true => (evEs es env p.2).bind fun q => methV m p.1 q.1 q.2
    | false => Option.none
  | .comp k src ifs elt, env, σ => (evE src env σ).bind fun p => (lenIt p.1 p.2).bind fun n =>
      if n ≤ lineL then (compN k (fun env σ => evI ifs env σ) (fun env σ => evE elt env σ) p.1 (n + 1) 0 env p.2).bind fun q =>
        if q.1.length ≤ lineL then some (.obj q.2.length, q.2 ++ [.list q.1]) else Option.none else Option.none
noncomputable def evEs : IEs → LE → AH → Option (List V × AH)
  | .nil, _, σ => some ([], σ)
  | .cons e es, env, σ => (evE e env σ).bind fun p => (evEs es env p.2).bind fun q => some (p.1 :: q.1, q.2)
noncomputable def evC : ICs → V → LE → AH → Option (Bool × AH)
  | .one op e, x, env, σ => (evE e env σ).bind fun p => (cmpV op x p.1 p.2).map fun b => (b, p.2)
  | .cons op e cs, x, env, σ => (evE e env σ).bind fun p => (cmpV op x p.1 p.2).bind fun b => match b with
    | true => evC cs p.1 env p.2
    | false => some (false, p.2)
noncomputable def evT : IT → LE → AH → Option (Bool × AH)
  | .val e, env, σ => (evE e env σ).bind fun p => (truthV p.1).map fun b => (b, p.2)
  | .not a, env, σ => (evT a env σ).map fun p => (!p.1, p.2)
  | .bop and a b, env, σ => (evT a env σ).bind fun p => match p.1 == and with
    | true => evT b env p.2
    | false => some (!and, p.2)
  | .cmp a cs, env, σ => (evE a env σ).bind fun p => evC cs p.1 env p.2
noncomputable def evI : ITs → LE → AH → Option (Bool × AH)
  | .nil, _, σ => some (true, σ)
  | .cons e es, env, σ => (evT e env σ).bind fun p => match p.1 with
      | true => evI es env p.2
      | false => some (false, p.2)
end
noncomputable def whileF (t : LE → AH → Option (Bool × AH)) (b : LE → AH → Option (Fl × LE × AH)) : Nat → LE → AH → Option (Fl × LE × AH)
  | 0, _, _ => Option.none
  | n + 1, env, σ => (t env σ).bind fun p => match p.1 with
    | false => some (.next, env, p.2)
    | true => (b env p.2).bind fun q => match q.1 with
      | .next | .cont => whileF t b n q.2.1 q.2.2
      | .brk => some (.next, q.2.1, q.2.2)
      | .ret v => some (.ret v, q.2.1, q.2.2)
noncomputable def bindAll : List Nat → List V → LE → Option LE
  | [], [], env => some env
  | k :: ks, v :: vs, env => bindAll ks vs (env.set k (some v))
  | _, _, _ => Option.none
noncomputable def unpV (v : V) (σ : AH) : Option (List V) := match v with
  | .tup vs => some vs
  | .obj n => listAt σ n
  | _ => Option.none
noncomputable def forN (st : V → LE → Option LE) (b : LE → AH → Option (Fl × LE × AH)) (o : V) : Nat → Nat → LE → AH → Option (Fl × LE × AH)
  | 0, _, _, _ => Option.none
  | f + 1, i, env, σ => (itemAt o i σ).bind fun r => match r with
    | Option.none => some (.next, env, σ)
    | some v => (st v env).bind fun env => (b env σ).bind fun q => match q.1 with
      | .next | .cont => forN st b o f (i + 1) q.2.1 q.2.2
      | .brk => some (.next, q.2.1, q.2.2)
      | .ret v => some (.ret v, q.2.1, q.2.2)
noncomputable def forV (st : V → LE → Option LE) (b : LE → AH → Option (Fl × LE × AH)) (o : V) (env : LE) (σ : AH) : Option (Fl × LE × AH) :=
  (lenIt o σ).bind fun n => forN st b o (n + 1) 0 env σ
noncomputable def setAll : List (Nat × Nat) → List V → LE → AH → Option AH
  | [], [], _, σ => some σ
  | (k, a) :: ts, v :: vs, env, σ => (env[k]?.join).bind fun o => (setAttrV o a v σ).bind fun σ => setAll ts vs env σ
  | _, _, _, _ => Option.none
mutual
noncomputable def exS : IS → LE → AH → Option (Fl × LE × AH)
  | .asg k e, env, σ => (evE init F e env σ).bind fun p => some (.next, env.set k (some p.1), p.2)
  | .asgA o a e, env, σ => (evE init F e env σ).bind fun p => (evE init F o env p.2).bind fun q => (setAttrV q.1 a p.1 q.2).bind fun σ => some (.next, env, σ)
  | .asgS o i e, env, σ => (evE init F e env σ).bind fun p => (evE init F o env p.2).bind fun q => (evE init F i env q.2).bind fun r => (setSubV q.1 r.1 p.1 r.2).bind fun σ => some (.next, env, σ)
  | .unp ks e, env, σ => (evE init F e env σ).bind fun p => (unpV p.1 p.2).bind fun vs => (bindAll ks vs env).bind fun env => some (.next, env, p.2)
  | .unpA ts e, env, σ => (evE init F e env σ).bind fun p => (unpV p.1 p.2).bind fun vs => (setAll ts vs env p.2).bind fun σ => some (.next, env, σ)
  | .aug k op e, env, σ => (env[k]?.join).bind fun x => (evE init F e env σ).bind fun q => (augV op x q.1 q.2).bind fun r => some (.next, env.set k (some r.1), r.2)
  | .augA o a op e, env, σ => (evE init F o env σ).bind fun p => (attrV p.1 a p.2).bind fun x => (evE init F e env p.2).bind fun q => (augV op x q.1 q.2).bind fun r =>
      (setAttrV p.1 a r.1 r.2).bind fun σ => some (.next, env, σ)
  | .augS o i op e, env, σ => (evE init F o env σ).bind fun p => (evE init F i env p.2).bind fun q => (subV p.1 q.1 q.2).bind fun x => (evE init F e env q.2).bind fun r => (augV op x r.1 r.2).bind fun y =>
      (setSubV p.1 q.1 y.1 y.2).bind fun σ => some (.next, env, σ)
  | .augD o key op e, env, σ => (evE init F o env σ).bind fun p => (dsubV p.1 key p.2).bind fun x => (evE init F e env p.2).bind fun q => (augV op x q.1 q.2).bind fun r =>
      (setKeyV p.1 key r.1 r.2).bind fun σ => some (.next, env, σ)
  | .ife t a b, env, σ => (evT init F t env σ).bind fun p => match p.1 with
    | true => exSs a env p.2
    | false => exSs b env p.2
  | .for_ k e body, env, σ => (evE init F e env σ).bind fun p => forV (fun v env => some (env.set k (some v))) (fun env σ => exSs body env σ) p.1 env p.2
  | .forT ks e body, env, σ => (evE init F e env σ).bind fun p => forV (fun v env => match v with | .tup vs => bindAll ks vs env | _ => Option.none) (fun env σ => exSs body env σ) p.1 env p.2
  | .while_ n t body, env, σ => whileF (fun env σ => evT init F t env σ) (fun env σ => exSs body env σ) n env σ
  | .ret e, env, σ => (evE init F e env σ).bind fun p => some (.ret p.1, env, p.2)
  | .retN, env, σ => some (.ret .none, env, σ)
  | .exp e, env, σ => (evE init F e env σ).bind fun p => some (.next, env, p.2)
  | .cont, env, σ => some (.cont, env, σ)
  | .try_ body, env, σ => exSs body env σ
  | .raise_, _, _ => Option.none
noncomputable def exSs : ISs → LE → AH → Option (Fl × LE × AH)
  | .nil, env, σ => some (.next, env, σ)
  | .cons s r, env, σ => (exS s env σ).bind fun q => match q.1 with
    | .next => exSs r q.2.1 q.2.2
    | f => some (f, q.2.1, q.2.2)
end
end
structure Fn where
  n : Nat
  m : Nat
  body : ISs
noncomputable def flV : Fl → Option V
  | .ret v => some v
  | .next => some .none
  | _ => Option.none
noncomputable def runF (init : Nat → Nat) (tbl : Nat → Option Fn) : Nat → Nat → List V → AH → Option (V × AH)
  | 0, _, _, _ => Option.none
  | d + 1, f, vs, σ => (tbl f).bind fun fn => if vs.length = fn.n then (exSs init (runF init tbl d) fn.body (vs.map some ++ List.replicate fn.m Option.none) σ).bind fun q => (flV q.1).map fun v => (v, q.2.2) else Option.none
theorem bE {α β : Type} {o : Option α} {f : α → Option β} {b : β} {G : Prop} (k : ∀ a, o = some a → f a = some b → G) (h : o.bind f = some b) : G := by
  cases o with
  | none => cases h
  | some a => exact k a rfl h
theorem bE2 {α γ β : Type} {o : Option (α × γ)} {f : α × γ → Option β} {b : β} {G : Prop} (k : ∀ a c, o = some (a, c) → f (a, c) = some b → G) (h : o.bind f = some b) : G :=
  bE (fun p h1 h2 => k p.1 p.2 h1 h2) h
theorem bE3 {α γ δ β : Type} {o : Option (α × γ × δ)} {f : α × γ × δ → Option β} {b : β} {G : Prop} (k : ∀ a c d, o = some (a, c, d) → f (a, c, d) = some b → G) (h : o.bind f = some b) : G :=
  bE (fun p h1 h2 => k p.1 p.2.1 p.2.2 h1 h2) h
theorem mE {α β : Type} {o : Option α} {f : α → β} {b : β} {G : Prop} (k : ∀ a, o = some a → f a = b → G) (h : o.map f = some b) : G := by
  cases o with
  | none => cases h
  | some a => exact k a rfl (Option.some.inj h)
theorem mE2 {α γ β : Type} {o : Option (α × γ)} {f : α × γ → β} {b : β} {G : Prop} (k : ∀ a c, o = some (a, c) → f (a, c) = b → G) (h : o.map f = some b) : G :=
  mE (fun p h1 h2 => k p.1 p.2 h1 h2) h
theorem iE {α : Type} {c : Prop} {i : Decidable c} {x : Option α} {b : α} {G : Prop} (k : c → x = some b → G) (h : (@ite _ c i x none) = some b) : G := by
  by_cases hc : c
  · rw [if_pos hc] at h; exact k hc h
  · rw [if_neg hc] at h; cases h
theorem nE {α : Type} {c : Prop} {i : Decidable c} {x : Option α} {b : α} {G : Prop} (k : ¬ c → x = some b → G) (h : (@ite _ c i none x) = some b) : G := by
  by_cases hc : c
  · rw [if_pos hc] at h; cases h
  · rw [if_neg hc] at h; exact k hc h
theorem zE {α : Type} {b : α} {G : Prop} (h : (none : Option α) = some b) : G := nomatch h
theorem tE {G : Prop} (h : true = false) : G := nomatch h
noncomputable def oS {α β : Type} (o : Option α) (x : Option β) (f : α → Option β) : Option β := match o with
  | some a => f a
  | none => x
theorem oE {α β : Type} {o : Option α} {x : Option β} {f : α → Option β} {b : β} {G : Prop} (k : ∀ a, o = some a → f a = some b → G) (k' : o = none → x = some b → G) (h : oS o x f = some b) : G := by
  cases o with
  | none => exact k' rfl h
  | some a => exact k a rfl h
theorem oN {α β : Type} {o : Option α} {x : Option β} {b : β} {G : Prop} (k : o = none → x = some b → G) (h : oS o x (fun _ => none) = some b) : G := oE (fun _ _ h => zE h) k h
noncomputable def eS {β : Type} (c : Bool) (x : Option β) : Option β := match c with
  | true => none
  | false => x
theorem eE {β : Type} {c : Bool} {x : Option β} {b : β} {G : Prop} (k : c = false → x = some b → G) (h : eS c x = some b) : G := by
  cases c with
  | true => exact zE h
  | false => exact k rfl h
theorem or_f {a b : Bool} (h : (a || b) = false) : a = false ∧ b = false := by cases a <;> cases b <;> first | exact ⟨rfl, rfl⟩ | cases h
theorem aBe {a b : Bool} {G : Prop} (k : a = true → b = true → G) (h : (a && b) = true) : G := k ((Bool.and_eq_true _ _).mp h).1 ((Bool.and_eq_true _ _).mp h).2
theorem one_is {α : Type} {l : List α} {a : α} (h : one l = some a) : l = [a] := by
  cases l with
  | nil => exact zE h
  | cons b r =>
    revert h; refine iE fun q h => ?_
    rw [List.isEmpty_iff.mp q, Option.some.inj h]
theorem dE {α : Type} {c : Prop} {i : Decidable c} {x y : α} {b : α} {G : Prop} (k : c → x = b → G) (k' : ¬ c → y = b → G) (h : (@ite _ c i x y) = b) : G := by
  by_cases hc : c
  · rw [if_pos hc] at h; exact k hc h
  · rw [if_neg hc] at h; exact k' hc h
theorem getF2 {a b k : Nat} {x y v : V} (h : getF k [(a, x), (b, y)] = some v) : (a = k ∧ x = v) ∨ (b = k ∧ y = v) :=
  dE (fun h1 h2 => .inl ⟨h1, Option.some.inj h2⟩) (fun _ h => dE (fun h1 h2 => .inr ⟨h1, Option.some.inj h2⟩) (fun _ h => zE h) h) h
theorem getF_cons (a k : Nat) (w : V) (r : List (Nat × V)) : getF a ((k, w) :: r) = if k = a then some w else getF a r := rfl
theorem putF_cons (a k : Nat) (v w : V) (r : List (Nat × V)) : putF a v ((k, w) :: r) = if k = a then (k, v) :: r else (k, w) :: putF a v r := rfl
theorem bindAll_cons (k : Nat) (ks : List Nat) (v : V) (vs : List V) (env : LE) : bindAll (k :: ks) (v :: vs) env = bindAll ks vs (env.set k (some v)) := rfl
theorem attrV_is {o v : V} {a : Nat} {σ : AH} (h : attrV o a σ = some v) : ∃ n c fs, o = .obj n ∧ σ[n]? = some (.inst c fs) ∧ getF a fs = some v := by
  cases o with
  | obj n =>
    delta attrV at h
    dsimp only at h
    cases q : σ[n]? with
    | none => rw [q] at h; exact zE h
    | some x =>
      rw [q] at h
      cases x with
      | inst c fs => exact ⟨n, c, fs, rfl, q, h⟩
      | _ => exact zE h
  | _ => exact zE h
theorem setAttrV_is {o v : V} {a : Nat} {σ σ' : AH} (h : setAttrV o a v σ = some σ') : ∃ n c fs, o = .obj n ∧ σ[n]? = some (.inst c fs) ∧ fs.length < 100 ∧ σ.set n (.inst c (putF a v fs)) = σ' := by
  cases o with
  | obj n =>
    delta setAttrV at h
    dsimp only at h
    cases q : σ[n]? with
    | none => rw [q] at h; exact zE h
    | some x =>
      rw [q] at h
      cases x with
      | inst c fs => exact iE (fun hl h => ⟨n, c, fs, rfl, q, hl, Option.some.inj h⟩) h
      | _ => exact zE h
  | _ => exact zE h
theorem dsubV_is {o v : V} {a : Nat} {σ : AH} (h : dsubV o a σ = some v) : ∃ n fs, o = .obj n ∧ σ[n]? = some (.dict fs) ∧ getF a fs = some v := by
  cases o with
  | obj n =>
    delta dsubV at h
    dsimp only at h
    cases q : σ[n]? with
    | none => rw [q] at h; exact zE h
    | some x =>
      rw [q] at h
      cases x with
      | dict fs => exact ⟨n, fs, rfl, q, h⟩
      | _ => exact zE h
  | _ => exact zE h
theorem setKeyV_is {o v : V} {a : Nat} {σ σ' : AH} (h : setKeyV o a v σ = some σ') : ∃ n fs w, o = .obj n ∧ σ[n]? = some (.dict fs) ∧ getF a fs = some w ∧ σ.set n (.dict (putF a v fs)) = σ' := by
  cases o with
  | obj n =>
    delta setKeyV at h
    dsimp only at h
    cases q : σ[n]? with
    | none => rw [q] at h; exact zE h
    | some x =>
      rw [q] at h
      cases x with
      | dict fs =>
        dsimp only at h
        cases q2 : getF a fs with
        | none => rw [q2] at h; exact zE h
        | some w => rw [q2] at h; exact ⟨n, fs, w, rfl, q, q2, Option.some.inj h⟩
      | _ => exact zE h
  | _ => exact zE h
theorem setSubV_is {o i v : V} {σ σ' : AH} (h : setSubV o i v σ = some σ') : ∃ n k vs, o = .obj n ∧ i = .int k ∧ σ[n]? = some (.list vs) ∧ (0 ≤ k ∧ k.toNat < vs.length ∧ k < 100000) ∧ σ.set n (.list (vs.set k.toNat v)) = σ' := by
  cases o with
  | obj n =>
    cases i with
    | int k =>
      delta setSubV at h
      dsimp only at h
      cases q : σ[n]? with
      | none => rw [q] at h; exact zE h
      | some x =>
        rw [q] at h
        cases x with
        | list vs => exact iE (fun hl h => ⟨n, k, vs, rfl, rfl, q, hl, Option.some.inj h⟩) h
        | _ => exact zE h
    | _ => exact zE h
  | _ => exact zE h
theorem idxV_is {v : V} {l : Option Nat} (h : idxV v = some l) : (v = .none ∧ none = l) ∨ ∃ k, v = .int k ∧ (0 ≤ k ∧ k < 100000) ∧ some k.toNat = l := by
  cases v with
  | none => exact .inl ⟨rfl, Option.some.inj h⟩
  | int k => exact .inr (iE (fun hk h => ⟨k, rfl, hk, Option.some.inj h⟩) h)
  | _ => exact zE h
theorem sliceV_is {o lo hi : V} {σ : AH} {r : V × AH} (h : sliceV o lo hi σ = some r) : ∃ n l k vs, o = .obj n ∧ idxV lo = some l ∧ idxV hi = some k ∧ listAt σ n = some vs ∧ vs.length ≤ lineL ∧ (.obj σ.length, σ ++ [.list (cutL vs l k)]) = r := by
  cases o with
  | obj n =>
    delta sliceV at h
    cases q1 : idxV lo with
    | none => rw [q1] at h; exact zE h
    | some l =>
    cases q2 : idxV hi with
    | none => rw [q1, q2] at h; exact zE h
    | some k =>
    rw [q1, q2] at h
    exact bE (fun vs hv h => iE (fun hl h => ⟨n, l, k, vs, rfl, rfl, rfl, hv, hl, Option.some.inj h⟩) h) h
  | _ => exact zE h
theorem revV_is {o : V} {σ : AH} {r : V × AH} (h : revV o σ = some r) : ∃ n vs, o = .obj n ∧ listAt σ n = some vs ∧ vs.length ≤ lineL ∧ (.obj σ.length, σ ++ [.list vs.reverse]) = r := by
  cases o with
  | obj n => exact bE (fun vs hv h => iE (fun hl h => ⟨n, vs, rfl, hv, hl, Option.some.inj h⟩) h) h
  | _ => exact zE h
theorem unpV_is {o : V} {σ : AH} {vs : List V} (h : unpV o σ = some vs) : o = .tup vs ∨ ∃ n, o = .obj n ∧ listAt σ n = some vs := by
  cases o with
  | tup ws => exact .inl (by rw [Option.some.inj h])
  | obj n => exact .inr ⟨n, rfl, h⟩
  | _ => exact zE h
theorem it_t (vs : List V) (i : Nat) (σ : AH) : itemAt (.tup vs) i σ = some vs[i]? := rfl
theorem it_s {x : List Nat} (ha : asciiL x = true) {i : Nat} {σ : AH} : itemAt (.str x) i σ = some ((x[i]?).map fun c => .str [c]) := if_pos ha
theorem it_l {n i : Nat} {vs : List V} {σ : AH} (h : listAt σ n = some vs) : itemAt (.obj n) i σ = some vs[i]? := congrArg (Option.map fun vs => vs[i]?) h
theorem it_r {a b c : Int} (ok : rangeOk a b c = true) {i : Nat} {σ : AH} : itemAt (.range a b c) i σ = some (if i < rangeN a b c then some (.int (a + (i : Int) * c)) else none) := if_pos ok
theorem ln_r {a b c : Int} (ok : rangeOk a b c = true) {σ : AH} : lenIt (.range a b c) σ = some (rangeN a b c) := if_pos ok
theorem ln_l {n : Nat} {vs : List V} {σ : AH} (h : listAt σ n = some vs) : lenIt (.obj n) σ = some vs.length := congrArg (Option.map List.length) h
theorem ln_s {x : List Nat} (ha : asciiL x = true) {σ : AH} : lenIt (.str x) σ = some x.length := if_pos ha
theorem bS {α β : Type} {o : Option α} {a : α} {f : α → Option β} {r : Option β} (h : o = some a) (k : f a = r) : o.bind f = r := by rw [h]; exact k
theorem splitL_cons (c d : Nat) (r : List Nat) : splitL c (d :: r) = if d = c then [] :: splitL c r else match splitL c r with
    | [] => [[d]]
    | x :: xs => (d :: x) :: xs := rfl
theorem findL_cons (c d i : Nat) (r : List Nat) : findL c (d :: r) i = if d = c then (i : Int) else findL c r (i + 1) := rfl
theorem joinL_cons2 (s x y : List Nat) (r : List (List Nat)) : joinL s (x :: y :: r) = x ++ s ++ joinL s (y :: r) := rfl
theorem repL_succ (vs : List V) (n : Nat) : repL vs (n + 1) = vs ++ repL vs n := rfl
theorem and_i {a b : Bool} (h : a = true) (k : b = true) : (a && b) = true := by rw [h, k]; rfl
end Mine
namespace Mine
open PySem
noncomputable def f_make_piece : Fn := ⟨2, 0,
.cons (.ret (.bin .Add (.bin .Mult (.var 0) (.cst (.int 8))) (.var 1))) (.nil)⟩
noncomputable def f_side_of : Fn := ⟨1, 0,
.cons (.ret (.bin .RShift (.var 0) (.cst (.int 3)))) (.nil)⟩
noncomputable def f_kind_of : Fn := ⟨1, 0,
.cons (.ret (.bin .BitAnd (.var 0) (.cst (.int 7)))) (.nil)⟩
noncomputable def f_is_piece : Fn := ⟨1, 0,
.cons (.ret (.bop true (.cmp (.cst (.int 0)) (.cons .Lt (.var 0) (.one .Lt (.cst (.int 15))))) (.bop true (.cmp (.var 0) (.one .NotEq (.cst (.int 7)))) (.cmp (.var 0) (.one .NotEq (.cst (.int 8))))))) (.nil)⟩
noncomputable def f_letter_of : Fn := ⟨1, 0,
.cons (.ife (.bop true (.cmp (.var 0) (.one .NotEq (.cst (.int 0)))) (.not (.val (.call 3 (.cons (.var 0) (.nil)))))) (.cons (.raise_) (.nil)) (.nil)) (.cons (.ret (.sub (.cst (.str [46, 80, 78, 66, 82, 81, 75, 46, 46, 112, 110,
    98, 114, 113, 107])) (.var 0))) (.nil))⟩
noncomputable def f_piece_of : Fn := ⟨1, 0,
.cons (.ife (.bop false (.cmp (.bi .len (.cons (.var 0) (.nil))) (.one .NotEq (.cst (.int 1)))) (.cmp (.var 0) (.one .Eq (.cst (.str [46]))))) (.cons (.ret (.neg (.cst (.int 1)))) (.nil)) (.nil)) (.cons (.ret (.meth .find (.cst
    (.str [46, 80, 78, 66, 82, 81, 75, 46, 46, 112, 110, 98, 114, 113, 107])) (.cons (.var 0) (.nil)))) (.nil))⟩
noncomputable def f_Geometry_init : Fn := ⟨5, 0,
.cons (.asgA (.var 0) 0 (.var 1)) (.cons (.asgA (.var 0) 1 (.var 2)) (.cons (.asgA (.var 0) 2 (.bin .Mult (.var 1) (.var 2))) (.cons (.asgA (.var 0) 3 (.bin .Sub (.bin .LShift (.cst (.int 1)) (.bin .Mult (.var 1) (.var 2))) (.cst
    (.int 1)))) (.cons (.asgA (.var 0) 4 (.bop true (.var 3) (.cmp (.var 2) (.one .GtE (.cst (.int 5)))))) (.cons (.asgA (.var 0) 5 (.var 4)) (.cons (.asgA (.var 0) 6 (.list (.nil))) (.cons (.asgA (.var 0) 7 (.list (.nil))) (.cons
    (.asgA (.var 0) 8 (.list (.nil))) (.cons (.asgA (.var 0) 9 (.list (.nil))) (.cons (.asgA (.var 0) 10 (.list (.nil))) (.cons (.asgA (.var 0) 11 (.list (.cons (.list (.nil)) (.cons (.list (.nil)) (.nil))))) (.cons (.asgA (.var
    0) 12 (.list (.nil))) (.cons (.asgA (.var 0) 13 (.list (.nil))) (.nil))))))))))))))⟩
noncomputable def f_is_growing : Fn := ⟨1, 0,
.cons (.ret (.bop false (.cmp (.tab [1, 0, (-1), 0, 1, (-1), (-1), 1] (.var 0)) (.one .Gt (.cst (.int 0)))) (.cmp (.var 0) (.one .Eq (.cst (.int 1)))))) (.nil)⟩
noncomputable def f_add_masks : Fn := ⟨1, 4,
.cons (.asg 1 (.bin .Sub (.bin .LShift (.cst (.int 1)) (.attr (.var 0) 0)) (.cst (.int 1)))) (.cons (.asg 2 (.cst (.int 0))) (.cons (.for_ 3 (.bi .range (.cons (.attr (.var 0) 1) (.nil))) (.cons (.exp (.meth .append (.attr (.var
    0) 7) (.cons (.bin .LShift (.var 1) (.bin .Mult (.var 3) (.attr (.var 0) 0))) (.nil)))) (.cons (.aug 2 .BitOr (.bin .LShift (.cst (.int 1)) (.bin .Mult (.var 3) (.attr (.var 0) 0)))) (.nil)))) (.cons (.for_ 4 (.bi .range
    (.cons (.attr (.var 0) 0) (.nil))) (.cons (.exp (.meth .append (.attr (.var 0) 6) (.cons (.bin .LShift (.var 2) (.var 4)) (.nil)))) (.nil))) (.nil))))⟩
noncomputable def f_inner_squares : Fn := ⟨2, 1,
.cons (.asg 2 (.cst (.int 0))) (.cons (.ife (.cmp (.tab [0, 1, 0, (-1), 1, 1, (-1), (-1)] (.var 1)) (.one .Gt (.cst (.int 0)))) (.cons (.aug 2 .BitOr (.sub (.attr (.var 0) 6) (.bin .Sub (.attr (.var 0) 0) (.cst (.int 1)))))
    (.nil)) (.nil)) (.cons (.ife (.cmp (.tab [0, 1, 0, (-1), 1, 1, (-1), (-1)] (.var 1)) (.one .Lt (.cst (.int 0)))) (.cons (.aug 2 .BitOr (.sub (.attr (.var 0) 6) (.cst (.int 0)))) (.nil)) (.nil)) (.cons (.ife (.cmp (.tab [1, 0,
    (-1), 0, 1, (-1), (-1), 1] (.var 1)) (.one .Gt (.cst (.int 0)))) (.cons (.aug 2 .BitOr (.sub (.attr (.var 0) 7) (.bin .Sub (.attr (.var 0) 1) (.cst (.int 1))))) (.nil)) (.nil)) (.cons (.ife (.cmp (.tab [1, 0, (-1), 0, 1, (-1),
    (-1), 1] (.var 1)) (.one .Lt (.cst (.int 0)))) (.cons (.aug 2 .BitOr (.sub (.attr (.var 0) 7) (.cst (.int 0)))) (.nil)) (.nil)) (.cons (.ret (.bin .BitAnd (.attr (.var 0) 3) (.inv (.var 2)))) (.nil))))))⟩
noncomputable def f_add_rays : Fn := ⟨1, 7,
.cons (.asgA (.var 0) 9 (.bin .Mult (.list (.cons (.cst (.int 0)) (.nil))) (.attr (.var 0) 2))) (.cons (.for_ 1 (.bi .range (.cons (.cst (.int 8)) (.nil))) (.cons (.asg 2 (.call 9 (.cons (.var 0) (.cons (.var 1) (.nil))))) (.cons
    (.asg 3 (.bin .Add (.bin .Mult (.tab [1, 0, (-1), 0, 1, (-1), (-1), 1] (.var 1)) (.attr (.var 0) 0)) (.tab [0, 1, 0, (-1), 1, 1, (-1), (-1)] (.var 1)))) (.cons (.asg 4 (.bin .Mult (.list (.cons (.cst (.int 0)) (.nil))) (.attr
    (.var 0) 2))) (.cons (.asg 5 (.bi .range (.cons (.attr (.var 0) 2) (.nil)))) (.cons (.ife (.val (.call 7 (.cons (.var 1) (.nil)))) (.cons (.asg 5 (.bi .range (.cons (.bin .Sub (.attr (.var 0) 2) (.cst (.int 1))) (.cons (.neg
    (.cst (.int 1))) (.cons (.neg (.cst (.int 1))) (.nil)))))) (.nil)) (.nil)) (.cons (.for_ 6 (.var 5) (.cons (.ife (.val (.bin .BitAnd (.bin .RShift (.var 2) (.var 6)) (.cst (.int 1)))) (.cons (.asg 7 (.bin .Add (.var 6) (.var
    3))) (.cons (.asgS (.var 4) (.var 6) (.bin .BitOr (.sub (.var 4) (.var 7)) (.bin .LShift (.cst (.int 1)) (.var 7)))) (.cons (.augS (.attr (.var 0) 9) (.var 6) .BitOr (.bin .LShift (.cst (.int 1)) (.var 7))) (.nil)))) (.nil))
    (.nil))) (.cons (.exp (.meth .append (.attr (.var 0) 8) (.cons (.var 4) (.nil)))) (.nil))))))))) (.nil))⟩
noncomputable def f_add_pawns : Fn := ⟨1, 1,
.cons (.for_ 1 (.bi .range (.cons (.attr (.var 0) 2) (.nil))) (.cons (.exp (.meth .append (.sub (.attr (.var 0) 11) (.cst (.int 0))) (.cons (.bin .BitAnd (.sub (.attr (.var 0) 9) (.var 1)) (.bin .BitOr (.sub (.sub (.attr (.var 0)
    8) (.cst (.int 4))) (.var 1)) (.sub (.sub (.attr (.var 0) 8) (.cst (.int 7))) (.var 1)))) (.nil)))) (.cons (.exp (.meth .append (.sub (.attr (.var 0) 11) (.cst (.int 1))) (.cons (.bin .BitAnd (.sub (.attr (.var 0) 9) (.var 1))
    (.bin .BitOr (.sub (.sub (.attr (.var 0) 8) (.cst (.int 5))) (.var 1)) (.sub (.sub (.attr (.var 0) 8) (.cst (.int 6))) (.var 1)))) (.nil)))) (.nil)))) (.nil)⟩
noncomputable def f_add_knights : Fn := ⟨1, 10,
.cons (.asg 1 (.attr (.var 0) 0)) (.cons (.asg 2 (.bin .BitAnd (.attr (.var 0) 3) (.inv (.sub (.attr (.var 0) 6) (.cst (.int 0)))))) (.cons (.asg 3 (.bin .BitAnd (.attr (.var 0) 3) (.inv (.sub (.attr (.var 0) 6) (.bin .Sub (.var
    1) (.cst (.int 1))))))) (.cons (.asg 4 (.bin .BitAnd (.var 2) (.inv (.sub (.attr (.var 0) 6) (.cst (.int 1)))))) (.cons (.asg 5 (.bin .BitAnd (.var 3) (.inv (.sub (.attr (.var 0) 6) (.bin .Sub (.var 1) (.cst (.int 2)))))))
    (.cons (.for_ 6 (.bi .range (.cons (.attr (.var 0) 2) (.nil))) (.cons (.asg 7 (.bin .LShift (.cst (.int 1)) (.var 6))) (.cons (.asg 8 (.bin .BitOr (.bin .BitAnd (.bin .LShift (.var 7) (.cst (.int 1))) (.var 2)) (.bin .BitAnd
    (.bin .RShift (.var 7) (.cst (.int 1))) (.var 3)))) (.cons (.asg 9 (.bin .BitOr (.bin .BitAnd (.bin .LShift (.var 7) (.cst (.int 2))) (.var 4)) (.bin .BitAnd (.bin .RShift (.var 7) (.cst (.int 2))) (.var 5)))) (.cons (.asg 10
    (.bin .BitOr (.bin .BitOr (.bin .BitOr (.bin .LShift (.var 8) (.bin .Mult (.cst (.int 2)) (.var 1))) (.bin .RShift (.var 8) (.bin .Mult (.cst (.int 2)) (.var 1)))) (.bin .LShift (.var 9) (.var 1))) (.bin .RShift (.var 9) (.var
    1)))) (.cons (.exp (.meth .append (.attr (.var 0) 10) (.cons (.bin .BitAnd (.var 10) (.attr (.var 0) 3)) (.nil)))) (.nil))))))) (.nil))))))⟩
noncomputable def f_add_castles : Fn := ⟨1, 6,
.cons (.asgA (.var 0) 13 (.bin .Mult (.list (.cons (.cst (.int 0)) (.nil))) (.attr (.var 0) 2))) (.cons (.asg 1 (.bin .FloorDiv (.attr (.var 0) 0) (.cst (.int 2)))) (.cons (.for_ 2 (.bi .range (.cons (.cst (.int 4)) (.nil)))
    (.cons (.asg 3 (.bin .Mult (.bin .Mult (.bin .RShift (.var 2) (.cst (.int 1))) (.bin .Sub (.attr (.var 0) 1) (.cst (.int 1)))) (.attr (.var 0) 0))) (.cons (.asg 4 (.bin .Sub (.attr (.var 0) 0) (.cst (.int 1)))) (.cons (.asg 5
    (.cst (.int 1))) (.cons (.ife (.val (.bin .BitAnd (.var 2) (.cst (.int 1)))) (.cons (.asg 4 (.cst (.int 0))) (.cons (.asg 5 (.neg (.cst (.int 1)))) (.nil))) (.nil)) (.cons (.asg 6 (.bin .Add (.var 1) (.bin .Mult (.cst (.int
    2)) (.var 5)))) (.cons (.ife (.bop true (.val (.attr (.var 0) 5)) (.cmp (.bin .Mult (.bin .Sub (.var 4) (.var 6)) (.var 5)) (.one .Gt (.cst (.int 0))))) (.cons (.exp (.meth .append (.attr (.var 0) 12) (.cons (.tup (.cons (.bin
    .Add (.var 3) (.var 1)) (.cons (.bin .Add (.var 3) (.var 6)) (.cons (.bin .Add (.var 3) (.var 4)) (.cons (.bin .Sub (.bin .Add (.var 3) (.var 6)) (.var 5)) (.nil)))))) (.nil)))) (.cons (.augS (.attr (.var 0) 13) (.bin .Add
    (.var 3) (.var 1)) .BitOr (.bin .LShift (.cst (.int 1)) (.var 2))) (.cons (.augS (.attr (.var 0) 13) (.bin .Add (.var 3) (.var 4)) .BitOr (.bin .LShift (.cst (.int 1)) (.var 2))) (.nil)))) (.cons (.exp (.meth .append (.attr
    (.var 0) 12) (.cons (.cst .none) (.nil)))) (.nil))) (.nil)))))))) (.nil)))⟩
noncomputable def f_make_geometry : Fn := ⟨4, 1,
.cons (.ife (.bop false (.cmp (.var 0) (.one .Lt (.cst (.int 2)))) (.bop false (.cmp (.var 0) (.one .Gt (.cst (.int 8)))) (.bop false (.cmp (.var 1) (.one .Lt (.cst (.int 3)))) (.cmp (.var 1) (.one .Gt (.cst (.int 8))))))) (.cons
    (.raise_) (.nil)) (.nil)) (.cons (.asg 4 (.new 0 (.cons (.var 0) (.cons (.var 1) (.cons (.var 2) (.cons (.var 3) (.nil))))))) (.cons (.exp (.call 8 (.cons (.var 4) (.nil)))) (.cons (.exp (.call 10 (.cons (.var 4) (.nil))))
    (.cons (.exp (.call 11 (.cons (.var 4) (.nil)))) (.cons (.exp (.call 12 (.cons (.var 4) (.nil)))) (.cons (.exp (.call 13 (.cons (.var 4) (.nil)))) (.cons (.ret (.var 4)) (.nil))))))))⟩
noncomputable def f_ray_attacks : Fn := ⟨4, 3,
.cons (.asg 4 (.sub (.sub (.attr (.var 0) 8) (.var 1)) (.var 2))) (.cons (.asg 5 (.bin .BitAnd (.var 4) (.var 3))) (.cons (.ife (.cmp (.var 5) (.one .Eq (.cst (.int 0)))) (.cons (.ret (.var 4)) (.nil)) (.nil)) (.cons (.ife (.val
    (.call 7 (.cons (.var 1) (.nil)))) (.cons (.ret (.bin .BitAnd (.var 4) (.bin .BitXor (.var 5) (.bin .Sub (.var 5) (.cst (.int 1)))))) (.nil)) (.nil)) (.cons (.asg 6 (.bin .RShift (.var 5) (.cst (.int 1)))) (.cons (.aug 6
    .BitOr (.bin .RShift (.var 6) (.cst (.int 1)))) (.cons (.aug 6 .BitOr (.bin .RShift (.var 6) (.cst (.int 2)))) (.cons (.aug 6 .BitOr (.bin .RShift (.var 6) (.cst (.int 4)))) (.cons (.aug 6 .BitOr (.bin .RShift (.var 6) (.cst
    (.int 8)))) (.cons (.aug 6 .BitOr (.bin .RShift (.var 6) (.cst (.int 16)))) (.cons (.aug 6 .BitOr (.bin .RShift (.var 6) (.cst (.int 32)))) (.cons (.ret (.bin .BitAnd (.var 4) (.inv (.var 6)))) (.nil))))))))))))⟩
noncomputable def f_rook_attacks : Fn := ⟨3, 2,
.cons (.asg 3 (.cst (.int 0))) (.cons (.for_ 4 (.bi .range (.cons (.cst (.int 4)) (.nil))) (.cons (.aug 3 .BitOr (.call 15 (.cons (.var 0) (.cons (.var 4) (.cons (.var 1) (.cons (.var 2) (.nil))))))) (.nil))) (.cons (.ret (.var
    3)) (.nil)))⟩
noncomputable def f_bishop_attacks : Fn := ⟨3, 2,
.cons (.asg 3 (.cst (.int 0))) (.cons (.for_ 4 (.bi .range (.cons (.cst (.int 4)) (.cons (.cst (.int 8)) (.nil)))) (.cons (.aug 3 .BitOr (.call 15 (.cons (.var 0) (.cons (.var 4) (.cons (.var 1) (.cons (.var 2) (.nil)))))))
    (.nil))) (.cons (.ret (.var 3)) (.nil)))⟩
noncomputable def f_more_than_one : Fn := ⟨1, 0,
.cons (.ret (.cmp (.bin .BitAnd (.var 0) (.bin .Sub (.var 0) (.cst (.int 1)))) (.one .NotEq (.cst (.int 0))))) (.nil)⟩
noncomputable def f_highest : Fn := ⟨1, 2,
.cons (.ife (.cmp (.var 0) (.one .Eq (.cst (.int 0)))) (.cons (.ret (.neg (.cst (.int 1)))) (.nil)) (.nil)) (.cons (.asg 1 (.cst (.int 1))) (.cons (.while_ 100 (.val (.bin .RShift (.var 0) (.var 1))) (.cons (.aug 1 .Mult (.cst
    (.int 2))) (.nil))) (.cons (.asg 2 (.cst (.int 0))) (.cons (.while_ 100 (.cmp (.var 1) (.one .Gt (.cst (.int 1)))) (.cons (.aug 1 .FloorDiv (.cst (.int 2))) (.cons (.ife (.val (.bin .RShift (.var 0) (.var 1))) (.cons (.aug 0
    .RShift (.var 1)) (.cons (.aug 2 .Add (.var 1)) (.nil))) (.nil)) (.nil)))) (.cons (.ret (.var 2)) (.nil))))))⟩
noncomputable def f_lowest : Fn := ⟨1, 0,
.cons (.ret (.call 19 (.cons (.bin .BitAnd (.var 0) (.neg (.var 0))) (.nil)))) (.nil)⟩
noncomputable def f_Zobrist_init : Fn := ⟨5, 0,
.cons (.asgA (.var 0) 14 (.var 1)) (.cons (.asgA (.var 0) 15 (.var 2)) (.cons (.asgA (.var 0) 16 (.var 3)) (.cons (.asgA (.var 0) 17 (.var 4)) (.nil))))⟩
noncomputable def f_state_key : Fn := ⟨1, 2,
.cons (.asg 1 (.attr (.var 0) 19)) (.cons (.asg 2 (.sub (.attr (.var 1) 16) (.attr (.var 0) 16))) (.cons (.ife (.cmp (.attr (.var 0) 15) (.one .GtE (.cst (.int 0)))) (.cons (.aug 2 .BitXor (.sub (.attr (.var 1) 15) (.bin .Mod
    (.attr (.var 0) 15) (.attr (.attr (.var 0) 18) 0)))) (.nil)) (.nil)) (.cons (.ife (.cmp (.attr (.var 0) 17) (.one .Eq (.cst (.int 1)))) (.cons (.aug 2 .BitXor (.attr (.var 1) 17)) (.nil)) (.nil)) (.cons (.ret (.var 2))
    (.nil)))))⟩
noncomputable def f_full_key : Fn := ⟨1, 4,
.cons (.asg 1 (.attr (.attr (.var 0) 19) 14)) (.cons (.asg 2 (.call 22 (.cons (.var 0) (.nil)))) (.cons (.asg 3 (.cst (.int 0))) (.cons (.for_ 4 (.attr (.var 0) 20) (.cons (.ife (.cmp (.var 4) (.one .NotEq (.cst (.int 0)))) (.cons
    (.aug 2 .BitXor (.sub (.sub (.var 1) (.var 4)) (.var 3))) (.nil)) (.nil)) (.cons (.aug 3 .Add (.cst (.int 1))) (.nil)))) (.cons (.ret (.var 2)) (.nil)))))⟩
noncomputable def f_Position_init : Fn := ⟨3, 0,
.cons (.asgA (.var 0) 18 (.var 1)) (.cons (.asgA (.var 0) 19 (.var 2)) (.cons (.asgA (.var 0) 20 (.bin .Mult (.list (.cons (.cst (.int 0)) (.nil))) (.attr (.var 1) 2))) (.cons (.asgA (.var 0) 21 (.bin .Mult (.list (.cons (.cst
    (.int 0)) (.nil))) (.cst (.int 7)))) (.cons (.asgA (.var 0) 22 (.list (.cons (.cst (.int 0)) (.cons (.cst (.int 0)) (.nil))))) (.cons (.asgA (.var 0) 17 (.cst (.int 0))) (.cons (.asgA (.var 0) 16 (.cst (.int 0))) (.cons (.asgA
    (.var 0) 15 (.neg (.cst (.int 1)))) (.cons (.asgA (.var 0) 23 (.cst (.int 0))) (.cons (.asgA (.var 0) 3 (.cst (.int 1))) (.cons (.asgA (.var 0) 24 (.cst (.int 0))) (.cons (.asgA (.var 0) 25 (.list (.nil))) (.nil))))))))))))⟩
noncomputable def f_put_piece : Fn := ⟨3, 1,
.cons (.asg 3 (.bin .LShift (.cst (.int 1)) (.var 2))) (.cons (.asgS (.attr (.var 0) 20) (.var 2) (.var 1)) (.cons (.augS (.attr (.var 0) 21) (.call 2 (.cons (.var 1) (.nil))) .BitOr (.var 3)) (.cons (.augS (.attr (.var 0) 22)
    (.call 1 (.cons (.var 1) (.nil))) .BitOr (.var 3)) (.cons (.augA (.var 0) 24 .BitXor (.sub (.sub (.attr (.attr (.var 0) 19) 14) (.var 1)) (.var 2))) (.nil)))))⟩
noncomputable def f_occupied : Fn := ⟨1, 0,
.cons (.ret (.bin .BitOr (.sub (.attr (.var 0) 22) (.cst (.int 0))) (.sub (.attr (.var 0) 22) (.cst (.int 1))))) (.nil)⟩
noncomputable def f_pieces : Fn := ⟨3, 0,
.cons (.ret (.bin .BitAnd (.sub (.attr (.var 0) 22) (.var 1)) (.sub (.attr (.var 0) 21) (.var 2)))) (.nil)⟩
noncomputable def f_king_square : Fn := ⟨2, 0,
.cons (.ret (.call 20 (.cons (.bin .BitAnd (.sub (.attr (.var 0) 22) (.var 1)) (.sub (.attr (.var 0) 21) (.cst (.int 6)))) (.nil)))) (.nil)⟩
noncomputable def f_same_position : Fn := ⟨2, 0,
.cons (.ife (.bop false (.cmp (.attr (.attr (.var 0) 18) 0) (.one .NotEq (.attr (.attr (.var 1) 18) 0))) (.cmp (.attr (.attr (.var 0) 18) 1) (.one .NotEq (.attr (.attr (.var 1) 18) 1)))) (.cons (.ret (.cst (.bool false))) (.nil))
    (.nil)) (.cons (.ife (.bop false (.cmp (.attr (.var 0) 20) (.one .NotEq (.attr (.var 1) 20))) (.bop false (.cmp (.attr (.var 0) 21) (.one .NotEq (.attr (.var 1) 21))) (.cmp (.attr (.var 0) 22) (.one .NotEq (.attr (.var 1)
    22))))) (.cons (.ret (.cst (.bool false))) (.nil)) (.nil)) (.cons (.ife (.bop false (.cmp (.attr (.var 0) 17) (.one .NotEq (.attr (.var 1) 17))) (.bop false (.cmp (.attr (.var 0) 16) (.one .NotEq (.attr (.var 1) 16))) (.cmp
    (.attr (.var 0) 15) (.one .NotEq (.attr (.var 1) 15))))) (.cons (.ret (.cst (.bool false))) (.nil)) (.nil)) (.cons (.ife (.bop false (.cmp (.attr (.var 0) 23) (.one .NotEq (.attr (.var 1) 23))) (.bop false (.cmp (.attr (.var
    0) 3) (.one .NotEq (.attr (.var 1) 3))) (.cmp (.attr (.var 0) 24) (.one .NotEq (.attr (.var 1) 24))))) (.cons (.ret (.cst (.bool false))) (.nil)) (.nil)) (.cons (.ret (.cmp (.attr (.var 0) 25) (.one .Eq (.attr (.var 1) 25))))
    (.nil)))))⟩
noncomputable def f_settle_key : Fn := ⟨1, 0,
.cons (.asgA (.var 0) 24 (.call 23 (.cons (.var 0) (.nil)))) (.nil)⟩
noncomputable def f_check_kings : Fn := ⟨1, 2,
.cons (.for_ 1 (.tup (.cons (.cst (.int 0)) (.cons (.cst (.int 1)) (.nil)))) (.cons (.asg 2 (.call 27 (.cons (.var 0) (.cons (.var 1) (.cons (.cst (.int 6)) (.nil)))))) (.cons (.ife (.cmp (.var 2) (.one .Eq (.cst (.int 0))))
    (.cons (.raise_) (.nil)) (.nil)) (.cons (.ife (.val (.call 18 (.cons (.var 2) (.nil)))) (.cons (.raise_) (.nil)) (.nil)) (.nil))))) (.nil)⟩
noncomputable def f_check_pawns : Fn := ⟨1, 2,
.cons (.asg 1 (.attr (.var 0) 18)) (.cons (.asg 2 (.bin .BitAnd (.sub (.attr (.var 0) 21) (.cst (.int 1))) (.bin .BitOr (.sub (.attr (.var 1) 7) (.cst (.int 0))) (.sub (.attr (.var 1) 7) (.bin .Sub (.attr (.var 1) 1) (.cst (.int
    1))))))) (.cons (.ife (.cmp (.var 2) (.one .NotEq (.cst (.int 0)))) (.cons (.raise_) (.nil)) (.nil)) (.nil)))⟩
noncomputable def f_check_rights : Fn := ⟨1, 2,
.cons (.ife (.not (.cmp (.cst (.int 0)) (.cons .LtE (.attr (.var 0) 16) (.one .Lt (.cst (.int 16)))))) (.cons (.raise_) (.nil)) (.nil)) (.cons (.for_ 1 (.bi .range (.cons (.cst (.int 4)) (.nil))) (.cons (.ife (.cmp (.bin .BitAnd
    (.attr (.var 0) 16) (.bin .LShift (.cst (.int 1)) (.var 1))) (.one .Eq (.cst (.int 0)))) (.cons (.cont) (.nil)) (.nil)) (.cons (.asg 2 (.sub (.attr (.attr (.var 0) 18) 12) (.var 1))) (.cons (.ife (.cmp (.var 2) (.one .Is (.cst
    .none))) (.cons (.raise_) (.nil)) (.nil)) (.cons (.ife (.cmp (.sub (.attr (.var 0) 20) (.sub (.var 2) (.cst (.int 0)))) (.one .NotEq (.call 0 (.cons (.bin .RShift (.var 1) (.cst (.int 1))) (.cons (.cst (.int 6)) (.nil))))))
    (.cons (.raise_) (.nil)) (.nil)) (.cons (.ife (.cmp (.sub (.attr (.var 0) 20) (.sub (.var 2) (.cst (.int 2)))) (.one .NotEq (.call 0 (.cons (.bin .RShift (.var 1) (.cst (.int 1))) (.cons (.cst (.int 4)) (.nil)))))) (.cons
    (.raise_) (.nil)) (.nil)) (.nil))))))) (.nil))⟩
noncomputable def f_turn_square : Fn := ⟨2, 0,
.cons (.ret (.bin .Add (.bin .Mult (.bin .Sub (.bin .Sub (.attr (.var 0) 1) (.cst (.int 1))) (.bin .FloorDiv (.var 1) (.attr (.var 0) 0))) (.attr (.var 0) 0)) (.bin .Mod (.var 1) (.attr (.var 0) 0)))) (.nil)⟩
noncomputable def f_turn_position : Fn := ⟨1, 4,
.cons (.asg 1 (.attr (.var 0) 18)) (.cons (.asg 2 (.new 2 (.cons (.var 1) (.cons (.attr (.var 0) 19) (.nil))))) (.cons (.for_ 3 (.bi .range (.cons (.attr (.var 1) 2) (.nil))) (.cons (.asg 4 (.sub (.attr (.var 0) 20) (.var 3)))
    (.cons (.ife (.cmp (.var 4) (.one .NotEq (.cst (.int 0)))) (.cons (.exp (.call 25 (.cons (.var 2) (.cons (.call 0 (.cons (.bin .Sub (.cst (.int 1)) (.call 1 (.cons (.var 4) (.nil)))) (.cons (.call 2 (.cons (.var 4) (.nil)))
    (.nil)))) (.cons (.call 34 (.cons (.var 1) (.cons (.var 3) (.nil)))) (.nil)))))) (.nil)) (.nil)) (.nil)))) (.cons (.asgA (.var 2) 17 (.bin .Sub (.cst (.int 1)) (.attr (.var 0) 17))) (.cons (.asgA (.var 2) 16 (.bin .BitOr (.bin
    .LShift (.bin .BitAnd (.attr (.var 0) 16) (.cst (.int 3))) (.cst (.int 2))) (.bin .RShift (.attr (.var 0) 16) (.cst (.int 2))))) (.cons (.ife (.cmp (.attr (.var 0) 15) (.one .GtE (.cst (.int 0)))) (.cons (.asgA (.var 2) 15
    (.call 34 (.cons (.var 1) (.cons (.attr (.var 0) 15) (.nil))))) (.nil)) (.nil)) (.cons (.asgA (.var 2) 23 (.attr (.var 0) 23)) (.cons (.asgA (.var 2) 3 (.attr (.var 0) 3)) (.cons (.exp (.call 30 (.cons (.var 2) (.nil))))
    (.cons (.ret (.var 2)) (.nil))))))))))⟩
noncomputable def f_straight_sliders : Fn := ⟨1, 0,
.cons (.ret (.bin .BitOr (.sub (.attr (.var 0) 21) (.cst (.int 4))) (.sub (.attr (.var 0) 21) (.cst (.int 5))))) (.nil)⟩
noncomputable def f_slanting_sliders : Fn := ⟨1, 0,
.cons (.ret (.bin .BitOr (.sub (.attr (.var 0) 21) (.cst (.int 3))) (.sub (.attr (.var 0) 21) (.cst (.int 5))))) (.nil)⟩
noncomputable def f_pawn_attackers : Fn := ⟨3, 0,
.cons (.ret (.bin .BitAnd (.bin .BitAnd (.sub (.sub (.attr (.attr (.var 0) 18) 11) (.bin .Sub (.cst (.int 1)) (.var 2))) (.var 1)) (.sub (.attr (.var 0) 21) (.cst (.int 1)))) (.sub (.attr (.var 0) 22) (.var 2)))) (.nil)⟩
noncomputable def f_step_attackers : Fn := ⟨3, 2,
.cons (.asg 3 (.attr (.var 0) 18)) (.cons (.asg 4 (.bin .BitAnd (.sub (.attr (.var 3) 10) (.var 1)) (.sub (.attr (.var 0) 21) (.cst (.int 2))))) (.cons (.aug 4 .BitOr (.bin .BitAnd (.sub (.attr (.var 3) 9) (.var 1)) (.sub (.attr
    (.var 0) 21) (.cst (.int 6))))) (.cons (.ret (.bin .BitOr (.call 38 (.cons (.var 0) (.cons (.var 1) (.cons (.var 2) (.nil))))) (.bin .BitAnd (.var 4) (.sub (.attr (.var 0) 22) (.var 2))))) (.nil))))⟩
noncomputable def f_is_attacked : Fn := ⟨4, 4,
.cons (.ife (.val (.call 39 (.cons (.var 0) (.cons (.var 1) (.cons (.var 2) (.nil)))))) (.cons (.ret (.cst (.bool true))) (.nil)) (.nil)) (.cons (.asg 4 (.attr (.var 0) 18)) (.cons (.asg 5 (.sub (.attr (.var 0) 22) (.var 2)))
    (.cons (.asg 6 (.bin .BitAnd (.call 36 (.cons (.var 0) (.nil))) (.var 5))) (.cons (.ife (.bop true (.val (.var 6)) (.val (.bin .BitAnd (.call 16 (.cons (.var 4) (.cons (.var 1) (.cons (.var 3) (.nil))))) (.var 6)))) (.cons
    (.ret (.cst (.bool true))) (.nil)) (.nil)) (.cons (.asg 7 (.bin .BitAnd (.call 37 (.cons (.var 0) (.nil))) (.var 5))) (.cons (.ret (.bop true (.cmp (.var 7) (.one .NotEq (.cst (.int 0)))) (.cmp (.bin .BitAnd (.call 17 (.cons
    (.var 4) (.cons (.var 1) (.cons (.var 3) (.nil))))) (.var 7)) (.one .NotEq (.cst (.int 0)))))) (.nil)))))))⟩
noncomputable def f_in_check_of : Fn := ⟨2, 1,
.cons (.asg 2 (.bin .BitOr (.sub (.attr (.var 0) 22) (.cst (.int 0))) (.sub (.attr (.var 0) 22) (.cst (.int 1))))) (.cons (.ret (.call 40 (.cons (.var 0) (.cons (.call 28 (.cons (.var 0) (.cons (.var 1) (.nil)))) (.cons (.bin .Sub
    (.cst (.int 1)) (.var 1)) (.cons (.var 2) (.nil))))))) (.nil))⟩
noncomputable def f_plain_number : Fn := ⟨1, 3,
.cons (.ife (.bop false (.cmp (.var 0) (.one .Eq (.cst (.str [])))) (.bop false (.cmp (.bi .len (.cons (.var 0) (.nil))) (.one .Gt (.cst (.int 255)))) (.bop true (.cmp (.sub (.var 0) (.cst (.int 0))) (.one .Eq (.cst (.str [48]))))
    (.cmp (.bi .len (.cons (.var 0) (.nil))) (.one .Gt (.cst (.int 1))))))) (.cons (.ret (.neg (.cst (.int 1)))) (.nil)) (.nil)) (.cons (.asg 1 (.cst (.int 0))) (.cons (.for_ 2 (.var 0) (.cons (.asg 3 (.meth .find (.cst (.str [48,
    49, 50, 51, 52, 53, 54, 55, 56, 57])) (.cons (.var 2) (.nil)))) (.cons (.ife (.cmp (.var 3) (.one .Lt (.cst (.int 0)))) (.cons (.ret (.neg (.cst (.int 1)))) (.nil)) (.nil)) (.cons (.asg 1 (.bin .Add (.bin .Mult (.var 1) (.cst
    (.int 10))) (.var 3))) (.nil))))) (.cons (.ret (.var 1)) (.nil))))⟩
noncomputable def f_read_row : Fn := ⟨2, 5,
.cons (.asg 2 (.list (.nil))) (.cons (.asg 3 (.cst (.bool false))) (.cons (.for_ 4 (.var 0) (.cons (.asg 5 (.meth .find (.cst (.str [48, 49, 50, 51, 52, 53, 54, 55, 56, 57])) (.cons (.var 4) (.nil)))) (.cons (.ife (.cmp (.var 5)
    (.one .GtE (.cst (.int 0)))) (.cons (.ife (.bop false (.cmp (.var 5) (.one .Eq (.cst (.int 0)))) (.val (.var 3))) (.cons (.ret (.cst .none)) (.nil)) (.nil)) (.cons (.exp (.meth .extend (.var 2) (.cons (.bin .Mult (.list (.cons
    (.cst (.int 0)) (.nil))) (.var 5)) (.nil)))) (.cons (.asg 3 (.cst (.bool true))) (.nil)))) (.cons (.asg 6 (.call 5 (.cons (.var 4) (.nil)))) (.cons (.ife (.cmp (.var 6) (.one .LtE (.cst (.int 0)))) (.cons (.ret (.cst .none))
    (.nil)) (.nil)) (.cons (.exp (.meth .append (.var 2) (.cons (.var 6) (.nil)))) (.cons (.asg 3 (.cst (.bool false))) (.nil)))))) (.nil)))) (.cons (.ife (.cmp (.bi .len (.cons (.var 2) (.nil))) (.one .NotEq (.var 1))) (.cons
    (.ret (.cst .none)) (.nil)) (.nil)) (.cons (.ret (.var 2)) (.nil)))))⟩
noncomputable def f_read_board : Fn := ⟨3, 4,
.cons (.asg 3 (.meth .split (.var 0) (.cons (.cst (.str [47])) (.nil)))) (.cons (.ife (.cmp (.bi .len (.cons (.var 3) (.nil))) (.one .NotEq (.var 2))) (.cons (.raise_) (.nil)) (.nil)) (.cons (.asg 4 (.list (.nil))) (.cons (.for_ 5
    (.bi .range (.cons (.var 2) (.nil))) (.cons (.asg 6 (.call 43 (.cons (.sub (.var 3) (.bin .Sub (.bin .Sub (.var 2) (.cst (.int 1))) (.var 5))) (.cons (.var 1) (.nil))))) (.cons (.ife (.cmp (.var 6) (.one .Is (.cst .none)))
    (.cons (.raise_) (.nil)) (.nil)) (.cons (.exp (.meth .extend (.var 4) (.cons (.var 6) (.nil)))) (.nil))))) (.cons (.ret (.var 4)) (.nil)))))⟩
noncomputable def f_read_side : Fn := ⟨1, 0,
.cons (.ife (.cmp (.var 0) (.one .Eq (.cst (.str [119])))) (.cons (.ret (.cst (.int 0))) (.nil)) (.nil)) (.cons (.ife (.cmp (.var 0) (.one .Eq (.cst (.str [98])))) (.cons (.ret (.cst (.int 1))) (.nil)) (.nil)) (.cons (.raise_)
    (.nil)))⟩
noncomputable def f_read_rights : Fn := ⟨1, 4,
.cons (.ife (.cmp (.var 0) (.one .Eq (.cst (.str [45])))) (.cons (.ret (.cst (.int 0))) (.nil)) (.nil)) (.cons (.asg 1 (.cst (.int 0))) (.cons (.asg 2 (.neg (.cst (.int 1)))) (.cons (.for_ 3 (.var 0) (.cons (.asg 4 (.meth .find
    (.cst (.str [75, 81, 107, 113])) (.cons (.var 3) (.nil)))) (.cons (.ife (.cmp (.var 4) (.one .LtE (.var 2))) (.cons (.raise_) (.nil)) (.nil)) (.cons (.asg 2 (.var 4)) (.cons (.aug 1 .BitOr (.bin .LShift (.cst (.int 1)) (.var
    4))) (.nil)))))) (.cons (.ife (.cmp (.var 1) (.one .Eq (.cst (.int 0)))) (.cons (.raise_) (.nil)) (.nil)) (.cons (.ret (.var 1)) (.nil))))))⟩
noncomputable def f_read_ep : Fn := ⟨3, 1,
.cons (.ife (.cmp (.var 0) (.one .Eq (.cst (.str [45])))) (.cons (.ret (.neg (.cst (.int 1)))) (.nil)) (.nil)) (.cons (.asg 3 (.call 67 (.cons (.var 1) (.cons (.var 2) (.cons (.var 0) (.nil)))))) (.cons (.ife (.cmp (.var 3) (.one
    .Lt (.cst (.int 0)))) (.cons (.raise_) (.nil)) (.nil)) (.cons (.ret (.var 3)) (.nil))))⟩
noncomputable def f_read_clock : Fn := ⟨3, 1,
.cons (.asg 3 (.call 42 (.cons (.var 0) (.nil)))) (.cons (.ife (.cmp (.var 3) (.one .Lt (.var 2))) (.cons (.raise_) (.nil)) (.nil)) (.cons (.ret (.var 3)) (.nil)))⟩
noncomputable def f_read_fields : Fn := ⟨2, 3,
.cons (.asg 2 (.call 44 (.cons (.sub (.var 0) (.cst (.int 0))) (.cons (.attr (.var 1) 0) (.cons (.attr (.var 1) 1) (.nil)))))) (.cons (.asg 3 (.call 45 (.cons (.sub (.var 0) (.cst (.int 1))) (.nil)))) (.cons (.asg 4 (.call 46
    (.cons (.sub (.var 0) (.cst (.int 2))) (.nil)))) (.cons (.ret (.tup (.cons (.var 2) (.cons (.var 3) (.cons (.var 4) (.cons (.call 47 (.cons (.sub (.var 0) (.cst (.int 3))) (.cons (.attr (.var 1) 0) (.cons (.attr (.var 1) 1)
    (.nil))))) (.nil))))))) (.nil))))⟩
noncomputable def f_check_pieces : Fn := ⟨1, 1,
.cons (.try_ (.cons (.exp (.call 31 (.cons (.var 0) (.nil)))) (.cons (.exp (.call 32 (.cons (.var 0) (.nil)))) (.nil)))) (.nil)⟩
noncomputable def f_check_wings : Fn := ⟨1, 1,
.cons (.try_ (.cons (.exp (.call 33 (.cons (.var 0) (.nil)))) (.nil))) (.nil)⟩
noncomputable def f_build_position : Fn := ⟨5, 6,
.cons (.unp [5, 6, 7, 8] (.var 0)) (.cons (.asg 9 (.new 2 (.cons (.var 3) (.cons (.var 4) (.nil))))) (.cons (.for_ 10 (.bi .range (.cons (.attr (.var 3) 2) (.nil))) (.cons (.ife (.cmp (.sub (.var 5) (.var 10)) (.one .NotEq (.cst
    (.int 0)))) (.cons (.exp (.call 25 (.cons (.var 9) (.cons (.sub (.var 5) (.var 10)) (.cons (.var 10) (.nil)))))) (.nil)) (.nil)) (.nil))) (.cons (.asgA (.var 9) 17 (.var 6)) (.cons (.asgA (.var 9) 16 (.var 7)) (.cons (.asgA
    (.var 9) 23 (.var 1)) (.cons (.asgA (.var 9) 3 (.var 2)) (.cons (.exp (.call 50 (.cons (.var 9) (.nil)))) (.cons (.exp (.call 51 (.cons (.var 9) (.nil)))) (.cons (.ife (.cmp (.var 8) (.one .GtE (.cst (.int 0)))) (.cons (.ife
    (.not (.val (.call 66 (.cons (.var 9) (.cons (.var 8) (.nil)))))) (.cons (.raise_) (.nil)) (.nil)) (.cons (.ife (.val (.call 65 (.cons (.var 9) (.cons (.var 8) (.nil))))) (.cons (.asgA (.var 9) 15 (.var 8)) (.nil)) (.nil))
    (.nil))) (.nil)) (.cons (.exp (.call 30 (.cons (.var 9) (.nil)))) (.cons (.ife (.val (.call 41 (.cons (.var 9) (.cons (.bin .Sub (.cst (.int 1)) (.var 6)) (.nil))))) (.cons (.raise_) (.nil)) (.nil)) (.cons (.ret (.var 9))
    (.nil)))))))))))))⟩
noncomputable def f_read_fen : Fn := ⟨3, 4,
.cons (.asg 3 (.meth .split (.var 0) (.cons (.cst (.str [32])) (.nil)))) (.cons (.ife (.cmp (.bi .len (.cons (.var 3) (.nil))) (.one .NotEq (.cst (.int 6)))) (.cons (.raise_) (.nil)) (.nil)) (.cons (.asg 4 (.call 49 (.cons (.var
    3) (.cons (.var 1) (.nil))))) (.cons (.asg 5 (.call 48 (.cons (.sub (.var 3) (.cst (.int 4))) (.cons (.cst (.int 4)) (.cons (.cst (.int 0)) (.nil)))))) (.cons (.asg 6 (.call 48 (.cons (.sub (.var 3) (.cst (.int 5))) (.cons
    (.cst (.int 5)) (.cons (.cst (.int 1)) (.nil)))))) (.cons (.ret (.call 52 (.cons (.var 4) (.cons (.var 5) (.cons (.var 6) (.cons (.var 1) (.cons (.var 2) (.nil)))))))) (.nil))))))⟩
noncomputable def f_write_row : Fn := ⟨1, 3,
.cons (.asg 1 (.cst (.str []))) (.cons (.asg 2 (.cst (.int 0))) (.cons (.for_ 3 (.var 0) (.cons (.ife (.cmp (.var 3) (.one .Eq (.cst (.int 0)))) (.cons (.aug 2 .Add (.cst (.int 1))) (.nil)) (.cons (.ife (.cmp (.var 2) (.one .Gt
    (.cst (.int 0)))) (.cons (.aug 1 .Add (.bi .str (.cons (.var 2) (.nil)))) (.nil)) (.nil)) (.cons (.asg 2 (.cst (.int 0))) (.cons (.aug 1 .Add (.call 4 (.cons (.var 3) (.nil)))) (.nil))))) (.nil))) (.cons (.ife (.cmp (.var 2)
    (.one .Gt (.cst (.int 0)))) (.cons (.aug 1 .Add (.bi .str (.cons (.var 2) (.nil)))) (.nil)) (.nil)) (.cons (.ret (.var 1)) (.nil)))))⟩
noncomputable def f_write_board : Fn := ⟨2, 2,
.cons (.asg 2 (.list (.nil))) (.cons (.asg 3 (.bi .len (.cons (.var 0) (.nil)))) (.cons (.while_ 100 (.cmp (.var 3) (.one .Gt (.cst (.int 0)))) (.cons (.aug 3 .Sub (.var 1)) (.cons (.exp (.meth .append (.var 2) (.cons (.call 54
    (.cons (.slice (.var 0) (.var 3) (.bin .Add (.var 3) (.var 1))) (.nil))) (.nil)))) (.nil)))) (.cons (.ret (.meth .join (.cst (.str [47])) (.cons (.var 2) (.nil)))) (.nil))))⟩
noncomputable def f_write_rights : Fn := ⟨1, 2,
.cons (.asg 1 (.cst (.str []))) (.cons (.for_ 2 (.bi .range (.cons (.cst (.int 4)) (.nil))) (.cons (.ife (.val (.bin .BitAnd (.bin .RShift (.var 0) (.var 2)) (.cst (.int 1)))) (.cons (.aug 1 .Add (.sub (.cst (.str [75, 81, 107,
    113])) (.var 2))) (.nil)) (.nil)) (.nil))) (.cons (.ife (.cmp (.var 1) (.one .Eq (.cst (.str [])))) (.cons (.ret (.cst (.str [45]))) (.nil)) (.nil)) (.cons (.ret (.var 1)) (.nil))))⟩
noncomputable def f_write_fields : Fn := ⟨1, 2,
.cons (.asg 1 (.cst (.str [119]))) (.cons (.ife (.cmp (.attr (.var 0) 17) (.one .Eq (.cst (.int 1)))) (.cons (.asg 1 (.cst (.str [98]))) (.nil)) (.nil)) (.cons (.asg 2 (.cst (.str [45]))) (.cons (.ife (.cmp (.attr (.var 0) 15)
    (.one .GtE (.cst (.int 0)))) (.cons (.asg 2 (.call 68 (.cons (.attr (.attr (.var 0) 18) 0) (.cons (.attr (.var 0) 15) (.nil))))) (.nil)) (.nil)) (.cons (.ret (.bin .Add (.bin .Add (.bin .Add (.bin .Add (.bin .Add (.bin .Add
    (.call 55 (.cons (.attr (.var 0) 20) (.cons (.attr (.attr (.var 0) 18) 0) (.nil)))) (.cst (.str [32]))) (.var 1)) (.cst (.str [32]))) (.call 56 (.cons (.attr (.var 0) 16) (.nil)))) (.cst (.str [32]))) (.var 2))) (.nil)))))⟩
noncomputable def f_write_fen : Fn := ⟨1, 0,
.cons (.ret (.bin .Add (.bin .Add (.bin .Add (.bin .Add (.call 57 (.cons (.var 0) (.nil))) (.cst (.str [32]))) (.bi .str (.cons (.attr (.var 0) 23) (.nil)))) (.cst (.str [32]))) (.bi .str (.cons (.attr (.var 0) 3) (.nil)))))
    (.nil)⟩
noncomputable def f_law_type : Fn := ⟨2, 0,
.cons (.augD (.var 0) 27 .Add (.cst (.int 1))) (.cons (.ife (.cmp (.dsub (.var 0) 27) (.one .LtE (.bi .len (.cons (.dsub (.var 0) 26) (.nil))))) (.cons (.ret (.bin .Mod (.sub (.dsub (.var 0) 26) (.bin .Sub (.dsub (.var 0) 27)
    (.cst (.int 1)))) (.var 1))) (.nil)) (.nil)) (.cons (.ret (.bin .Mod (.tab [3, 3, 0, 2, 4, 8, 1, 0, 16, 0, 1, 12, 0, 0, 1, 4, 1, 1, 7, 40] (.bin .Mod (.bin .Sub (.dsub (.var 0) 27) (.cst (.int 1))) (.cst (.int 20)))) (.var
    1))) (.nil)))⟩
noncomputable def f_law_board : Fn := ⟨1, 11,
.cons (.asg 2 (.comp 10 (.bi .range (.cons (.cst (.int 15)) (.nil))) (.nil) (.comp 11 (.bi .range (.cons (.cst (.int 28)) (.nil))) (.nil) (.bin .Mod (.bin .Pow (.bin .Add (.bin .Add (.bin .Mult (.cst (.int 97)) (.var 10)) (.bin
    .Mult (.cst (.int 31)) (.var 11))) (.cst (.int 7))) (.cst (.int 4))) (.bin .Pow (.cst (.int 2)) (.cst (.int 59))))))) (.cons (.asg 3 (.new 1 (.cons (.var 2) (.cons (.comp 10 (.bi .range (.cons (.cst (.int 7)) (.nil))) (.nil)
    (.bin .Mult (.bin .Pow (.cst (.int 5)) (.cst (.int 8))) (.bin .Add (.var 10) (.cst (.int 1))))) (.cons (.comp 10 (.bi .range (.cons (.cst (.int 16)) (.nil))) (.nil) (.bin .Mult (.bin .Pow (.cst (.int 3)) (.cst (.int 11)))
    (.var 10))) (.cons (.bin .Pow (.cst (.int 7)) (.cst (.int 13))) (.nil))))))) (.cons (.asg 4 (.new 2 (.cons (.call 14 (.cons (.cst (.int 7)) (.cons (.cst (.int 4)) (.cons (.cst (.bool false)) (.cons (.cst (.bool true))
    (.nil)))))) (.cons (.var 3) (.nil))))) (.cons (.exp (.call 25 (.cons (.var 4) (.cons (.call 0 (.cons (.cst (.int 0)) (.cons (.cst (.int 6)) (.nil)))) (.cons (.cst (.int 3)) (.nil)))))) (.cons (.exp (.call 25 (.cons (.var 4)
    (.cons (.call 0 (.cons (.cst (.int 1)) (.cons (.cst (.int 6)) (.nil)))) (.cons (.cst (.int 24)) (.nil)))))) (.cons (.for_ 5 (.bi .range (.cons (.cst (.int 4)) (.nil))) (.cons (.asg 6 (.call 59 (.cons (.var 0) (.cons (.cst
    (.int 4)) (.nil))))) (.cons (.ife (.cmp (.var 6) (.one .Gt (.cst (.int 0)))) (.cons (.exp (.call 25 (.cons (.var 4) (.cons (.call 0 (.cons (.bin .FloorDiv (.var 5) (.cst (.int 2))) (.cons (.cst (.int 4)) (.nil)))) (.cons (.sub
    (.tup (.cons (.cst (.int 6)) (.cons (.cst (.int 0)) (.cons (.cst (.int 27)) (.cons (.cst (.int 21)) (.nil)))))) (.var 5)) (.nil)))))) (.cons (.augA (.var 4) 16 .BitOr (.bin .LShift (.bi .int (.cons (.cmp (.var 6) (.one .Gt
    (.cst (.int 1)))) (.nil))) (.var 5))) (.nil))) (.nil)) (.nil)))) (.cons (.for_ 7 (.bi .range (.cons (.call 59 (.cons (.var 0) (.cons (.cst (.int 6)) (.nil)))) (.nil))) (.cons (.unp [1, 8, 9] (.tup (.cons (.call 59 (.cons (.var
    0) (.cons (.cst (.int 28)) (.nil)))) (.cons (.bin .Add (.cst (.int 1)) (.call 59 (.cons (.var 0) (.cons (.cst (.int 5)) (.nil))))) (.cons (.call 59 (.cons (.var 0) (.cons (.cst (.int 2)) (.nil)))) (.nil)))))) (.cons (.ife
    (.bop true (.cmp (.var 8) (.one .Eq (.cst (.int 1)))) (.not (.cmp (.cst (.int 7)) (.cons .LtE (.var 1) (.one .Lt (.cst (.int 21))))))) (.cons (.asg 8 (.cst (.int 2))) (.nil)) (.nil)) (.cons (.ife (.cmp (.bin .BitAnd (.bin
    .RShift (.call 26 (.cons (.var 4) (.nil))) (.var 1)) (.cst (.int 1))) (.one .Eq (.cst (.int 0)))) (.cons (.exp (.call 25 (.cons (.var 4) (.cons (.call 0 (.cons (.var 9) (.cons (.var 8) (.nil)))) (.cons (.var 1) (.nil))))))
    (.nil)) (.nil)) (.nil))))) (.cons (.unpA [(4, 17), (4, 23), (4, 3)] (.tup (.cons (.call 59 (.cons (.var 0) (.cons (.cst (.int 2)) (.nil)))) (.cons (.call 59 (.cons (.var 0) (.cons (.cst (.int 50)) (.nil)))) (.cons (.bin .Add
    (.cst (.int 1)) (.call 59 (.cons (.var 0) (.cons (.cst (.int 300)) (.nil))))) (.nil)))))) (.cons (.ife (.val (.call 41 (.cons (.var 4) (.cons (.bin .Sub (.cst (.int 1)) (.attr (.var 4) 17)) (.nil))))) (.cons (.asgA (.var 4) 17
    (.bin .Sub (.cst (.int 1)) (.attr (.var 4) 17))) (.nil)) (.nil)) (.cons (.exp (.call 30 (.cons (.var 4) (.nil)))) (.cons (.ret (.var 4)) (.nil)))))))))))⟩
noncomputable def f_law_other_case : Fn := ⟨1, 1,
.cons (.ret (.meth .join (.cst (.str [])) (.cons (.comp 1 (.var 0) (.nil) (.ife (.cmp (.var 1) (.one .Eq (.meth .upper (.var 1) (.nil)))) (.meth .lower (.var 1) (.nil)) (.meth .upper (.var 1) (.nil)))) (.nil)))) (.nil)⟩
noncomputable def f_law_turned : Fn := ⟨1, 9,
.cons (.unp [1, 2, 3, 4, 5, 6] (.meth .split (.var 0) (.cons (.cst (.str [32])) (.nil)))) (.cons (.asg 7 (.meth .join (.cst (.str [47])) (.cons (.comp 9 (.rev (.meth .split (.var 1) (.cons (.cst (.str [47])) (.nil)))) (.nil)
    (.call 61 (.cons (.var 9) (.nil)))) (.nil)))) (.cons (.asg 8 (.meth .join (.cst (.str [])) (.cons (.comp 9 (.cst (.str [75, 81, 107, 113])) (.cons (.cmp (.call 61 (.cons (.var 9) (.nil))) (.one .In (.var 3))) (.nil)) (.var 9))
    (.nil)))) (.cons (.ret (.meth .join (.cst (.str [32])) (.cons (.list (.cons (.var 7) (.cons (.ife (.cmp (.var 2) (.one .Eq (.cst (.str [119])))) (.cst (.str [98])) (.cst (.str [119]))) (.cons (.ife (.cmp (.var 8) (.one .NotEq
    (.cst (.str [])))) (.var 8) (.cst (.str [45]))) (.cons (.var 4) (.cons (.var 5) (.cons (.var 6) (.nil)))))))) (.nil)))) (.nil))))⟩
noncomputable def f_law_fills : Fn := ⟨2, 4,
.cons (.for_ 2 (.meth .split (.sub (.meth .split (.var 0) (.cons (.cst (.str [32])) (.nil))) (.cst (.int 0))) (.cons (.cst (.str [47])) (.nil))) (.cons (.asg 3 (.cst (.int 0))) (.cons (.for_ 4 (.bi .range (.cons (.bi .len (.cons
    (.var 2) (.nil))) (.nil))) (.cons (.asg 5 (.cmp (.sub (.var 2) (.var 4)) (.one .In (.cst (.str [49, 50, 51, 52, 53, 54, 55, 56]))))) (.cons (.ife (.bop true (.val (.var 5)) (.bop true (.cmp (.var 4) (.one .Gt (.cst (.int 0))))
    (.cmp (.sub (.var 2) (.bin .Sub (.var 4) (.cst (.int 1)))) (.one .In (.cst (.str [49, 50, 51, 52, 53, 54, 55, 56])))))) (.cons (.ret (.cst (.bool false))) (.nil)) (.nil)) (.cons (.aug 3 .Add (.ife (.val (.var 5)) (.bi .int
    (.cons (.sub (.var 2) (.var 4)) (.nil))) (.cst (.int 1)))) (.nil))))) (.cons (.ife (.cmp (.var 3) (.one .NotEq (.var 1))) (.cons (.ret (.cst (.bool false))) (.nil)) (.nil)) (.nil))))) (.cons (.ret (.cst (.bool true))) (.nil))⟩
noncomputable def f_law : Fn := ⟨1, 7,
.cons (.asg 1 (.dict [26, 27] (.cons (.slice (.var 0) (.cst .none) (.cst (.int 30))) (.cons (.cst (.int 0)) (.nil))))) (.cons (.asg 2 (.call 60 (.cons (.var 1) (.nil)))) (.cons (.ife (.val (.call 41 (.cons (.var 2) (.cons (.bin
    .Sub (.cst (.int 1)) (.attr (.var 2) 17)) (.nil))))) (.cons (.ret (.cst (.bool true))) (.nil)) (.nil)) (.cons (.unp [3, 4] (.tup (.cons (.call 35 (.cons (.var 2) (.nil))) (.cons (.call 58 (.cons (.var 2) (.nil))) (.nil)))))
    (.cons (.ife (.bop false (.cmp (.call 58 (.cons (.var 3) (.nil))) (.one .NotEq (.call 62 (.cons (.var 4) (.nil))))) (.bop false (.not (.val (.call 63 (.cons (.var 4) (.cons (.cst (.int 7)) (.nil)))))) (.cmp (.attr (.var 3) 24)
    (.one .NotEq (.call 23 (.cons (.var 3) (.nil))))))) (.cons (.ret (.cst (.bool false))) (.nil)) (.nil)) (.cons (.ife (.not (.val (.call 29 (.cons (.call 35 (.cons (.var 3) (.nil))) (.cons (.var 2) (.nil)))))) (.cons (.ret (.cst
    (.bool false))) (.nil)) (.nil)) (.cons (.forT [5, 6] (.tup (.cons (.tup (.cons (.var 2) (.cons (.var 4) (.nil)))) (.cons (.tup (.cons (.var 3) (.cons (.call 62 (.cons (.var 4) (.nil))) (.nil)))) (.nil)))) (.cons (.asg 7 (.call
    53 (.cons (.var 6) (.cons (.attr (.var 2) 18) (.cons (.attr (.var 2) 19) (.nil)))))) (.cons (.ife (.bop false (.not (.val (.call 29 (.cons (.var 7) (.cons (.var 5) (.nil)))))) (.cmp (.call 58 (.cons (.var 7) (.nil))) (.one
    .NotEq (.var 6)))) (.cons (.ret (.cst (.bool false))) (.nil)) (.nil)) (.nil)))) (.cons (.ret (.cst (.bool true))) (.nil))))))))⟩
noncomputable def tbl : Nat → Option Fn
  | 0 => some f_make_piece
  | 1 => some f_side_of
  | 2 => some f_kind_of
  | 3 => some f_is_piece
  | 4 => some f_letter_of
  | 5 => some f_piece_of
  | 6 => some f_Geometry_init
  | 7 => some f_is_growing
  | 8 => some f_add_masks
  | 9 => some f_inner_squares
  | 10 => some f_add_rays
  | 11 => some f_add_pawns
  | 12 => some f_add_knights
  | 13 => some f_add_castles
  | 14 => some f_make_geometry
  | 15 => some f_ray_attacks
  | 16 => some f_rook_attacks
  | 17 => some f_bishop_attacks
  | 18 => some f_more_than_one
  | 19 => some f_highest
  | 20 => some f_lowest
  | 21 => some f_Zobrist_init
  | 22 => some f_state_key
  | 23 => some f_full_key
  | 24 => some f_Position_init
  | 25 => some f_put_piece
  | 26 => some f_occupied
  | 27 => some f_pieces
  | 28 => some f_king_square
  | 29 => some f_same_position
  | 30 => some f_settle_key
  | 31 => some f_check_kings
  | 32 => some f_check_pawns
  | 33 => some f_check_rights
  | 34 => some f_turn_square
  | 35 => some f_turn_position
  | 36 => some f_straight_sliders
  | 37 => some f_slanting_sliders
  | 38 => some f_pawn_attackers
  | 39 => some f_step_attackers
  | 40 => some f_is_attacked
  | 41 => some f_in_check_of
  | 42 => some f_plain_number
  | 43 => some f_read_row
  | 44 => some f_read_board
  | 45 => some f_read_side
  | 46 => some f_read_rights
  | 47 => some f_read_ep
  | 48 => some f_read_clock
  | 49 => some f_read_fields
  | 50 => some f_check_pieces
  | 51 => some f_check_wings
  | 52 => some f_build_position
  | 53 => some f_read_fen
  | 54 => some f_write_row
  | 55 => some f_write_board
  | 56 => some f_write_rights
  | 57 => some f_write_fields
  | 58 => some f_write_fen
  | 59 => some f_law_type
  | 60 => some f_law_board
  | 61 => some f_law_other_case
  | 62 => some f_law_turned
  | 63 => some f_law_fills
  | 64 => some f_law
  | _ => none
noncomputable def initOf : Nat → Nat
  | 0 => 6
  | 1 => 21
  | 2 => 24
  | _ => 1000
noncomputable def fnames : List (Nat × String) := [(0, "make_piece"), (1, "side_of"), (2, "kind_of"), (3, "is_piece"), (4, "letter_of"), (5, "piece_of"), (7, "is_growing"), (8, "add_masks"), (9, "inner_squares"), (10, "add_rays"), (11, "add_pawns"), (12, "add_knights"), (13, "add_castles"), (14, "make_geometry"), (15, "ray_attacks"), (16, "rook_attacks"), (17, "bishop_attacks"), (18, "more_than_one"), (19, "highest"), (20, "lowest"), (22, "state_key"), (23, "full_key"), (25, "put_piece"), (26, "occupied"), (27, "pieces"), (28, "king_square"), (29, "same_position"), (30, "settle_key"), (31, "check_kings"), (32, "check_pawns"), (33, "check_rights"), (34, "turn_square"), (35, "turn_position"), (36, "straight_sliders"), (37, "slanting_sliders"), (38, "pawn_attackers"), (39, "step_attackers"), (40, "is_attacked"), (41, "in_check_of"), (42, "plain_number"), (43, "read_row"), (44, "read_board"), (45, "read_side"), (46, "read_rights"), (47, "read_ep"), (48, "read_clock"), (49, "read_fields"), (50, "check_pieces"), (51, "check_wings"), (52, "build_position"), (53, "read_fen"), (54, "write_row"), (55, "write_board"), (56, "write_rights"), (57, "write_fields"), (58, "write_fen"), (59, "_law_type"), (60, "_law_board"), (61, "_law_other_case"), (62, "_law_turned"), (63, "_law_fills"), (64, "law"), (65, "ep_attacked"), (66, "ep_stands"), (67, "read_square"), (68, "square_name")]
noncomputable def cnames : List (Nat × String) := [(0, "Geometry"), (1, "Zobrist"), (2, "Position")]
noncomputable def anames : List String := ["files", "ranks", "size", "full", "has_double", "has_castling", "file_masks", "rank_masks", "rays", "king", "knight", "pawn", "castles", "rights_lost", "pieces", "ep", "rights", "side", "geo", "zob", "board", "kinds", "sides", "half", "key", "history", "row", "at"]
end Mine
namespace Mine
open PySem
inductive GK where
  | int (i : Int)
  | str (x : List Nat)
  | tup (xs : List Int)
  | fn (i : Nat)
  | cls (i : Nat)
  | bi (b : BI)
structure CE where
  vars : List (Str × Nat)
  kinds : List (Str × NameKind)
noncomputable def vNm : (e : Expr) → Option {x : Str // ∃ p, e = .Name x p}
  | .Name x p => some ⟨x, p, rfl⟩
  | _ => none
noncomputable def vCst : (e : Expr) → Option {q : Const // ∃ k p, e = .Constant q k p}
  | .Constant q k p => some ⟨q, k, p, rfl⟩
  | _ => none
noncomputable def vAt : (e : Expr) → Option {q : Expr × Str × Pos // e = .Attribute q.1 q.2.1 q.2.2}
  | .Attribute o a p => some ⟨(o, a, p), rfl⟩
  | _ => none
noncomputable def vSl : (e : Expr) → Option {q : Option Expr × Option Expr × Option Expr // ∃ p, e = .Slice q.1 q.2.1 q.2.2 p}
  | .Slice a b c p => some ⟨(a, b, c), p, rfl⟩
  | _ => none
noncomputable def vUn : (e : Expr) → Option {q : UnaryOp × Expr // ∃ p, e = .UnaryOp q.1 q.2 p}
  | .UnaryOp a b p => some ⟨(a, b), p, rfl⟩
  | _ => none
noncomputable def vS : (c : Const) → Option {x : Str // c = .str x}
  | .str x => some ⟨x, rfl⟩
  | _ => none
noncomputable def isOne : Const → Bool
  | .int i => decide (i = 1)
  | _ => false
noncomputable def isNeg : UnaryOp → Bool
  | .USub => true
  | _ => false
noncomputable def isComp : Expr → Bool
  | .ListComp .. | .SetComp .. | .DictComp .. => true
  | _ => false
noncomputable def bareCall : Expr → Bool
  | .Call _ as _ _ => as.isEmpty
  | _ => false
noncomputable def strConst (e : Expr) : Option Str := (vCst e).bind fun q => (vS q.1).map fun x => x.1
theorem strConst_is {e : Expr} {x : Str} (h : strConst e = some x) : ∃ k p, e = .Constant (.str x) k p := by
  revert h; refine bE fun q _ h => ?_
  revert h; refine mE fun y _ h => ?_
  obtain ⟨q, k, p, e1⟩ := q
  obtain ⟨y, e2⟩ := y
  exact ⟨k, p, by rw [e1, show q = _ from e2, show y = x from h]⟩
noncomputable def meNames : List (Str × ME) := [("append", .append), ("extend", .extend), ("find", .find), ("split", .split), ("join", .join), ("lower", .lower), ("upper", .upper)]
section
variable (glb : List (Str × GK)) (aidx : List (Str × Nat))
noncomputable def cVar (Γ : CE) (id : Str) : Option Nat := match Γ.kinds.lookup id with
  | some .local | some .cell | some .free => Γ.vars.lookup id
  | _ => none
noncomputable def cGlb (Γ : CE) (id : Str) : Option GK := match Γ.kinds.lookup id with
  | some .globalImplicit => glb.lookup id
  | _ => none
noncomputable def gkTup : GK → Option (List Int)
  | .tup xs => some xs
  | _ => none
noncomputable def gkCst : GK → Option V
  | .int i => some (.int i)
  | .str x => some (.str x)
  | _ => none
noncomputable def tabOf (Γ : CE) (e : Expr) : Option (List Int) := (vNm e).bind fun x => eS (x.1 == ("__debug__" : Str)) (oS (cVar Γ x.1) ((cGlb glb Γ x.1).bind gkTup) fun _ => none)
noncomputable def isLen : BI → Bool
  | .len => true
  | _ => false
noncomputable def lenTab (Γ : CE) (b : BI) (as : List Expr) : Option (List Int) := if isLen b = true then (one as).bind (tabOf glb Γ) else none
noncomputable def cList (f : Expr → Option IE) : List Expr → Option IEs
  | [] => some .nil
  | e :: r => (f e).bind fun a => (cList f r).bind fun b => some (.cons a b)
noncomputable def cBop (and : Bool) (f : Expr → Option IE) : List Expr → Option IE
  | [] => none
  | [e] => f e
  | e :: e' :: r => (f e).bind fun a => (cBop and f (e' :: r)).bind fun b => some (.bop and a b)
noncomputable def cBopT (and : Bool) (f : Expr → Option IT) : List Expr → Option IT
  | [] => none
  | [e] => f e
  | e :: e' :: r => (f e).bind fun a => (cBopT and f (e' :: r)).bind fun b => some (.bop and a b)
noncomputable def cChain (f : Expr → Option IE) : List CmpOp → List Expr → Option ICs
  | op :: ops, es => (match es with
    | e :: es => (f e).bind fun a => oS (one (ops.isEmpty :: es.map fun _ => true)) ((cChain f ops es).bind fun b => some (.cons op a b)) fun c => if c = true then some (.one op a) else none
    | [] => none)
  | [], _ => none
noncomputable def cTests (f : Expr → Option IT) : List Expr → Option ITs
  | [] => some .nil
  | e :: r => (f e).bind fun a => (cTests f r).bind fun b => some (.cons a b)
noncomputable def relK (Γ : CE) (names : List (Str × NameKind)) : List (Str × NameKind) :=
  names.map fun (n, k) => if (k == .free && Γ.kinds.lookup n == some .cell) then (n, .cell) else (n, k)
noncomputable def seenV (Γ : CE) : List (Str × NameKind) → Option (List (Str × Nat))
  | [] => some []
  | (n, .free) :: r => (match Γ.kinds.lookup n with
    | some .cell | some .free => (Γ.vars.lookup n).bind fun k => (seenV Γ r).bind fun l => some ((n, k) :: l)
    | _ => none)
  | _ :: r => seenV Γ r
noncomputable def dot0 : Str := ".0"
noncomputable def compCE (Γ : CE) (names : List (Str × NameKind)) (x : Str) (nx : Nat) : Option CE :=
  match names.lookup x with
  | some .local | some .cell => if (names.all fun y => names.lookup y.1 == some y.2 && y.2 != .globalExplicit && (y.2 != .local || y.1 == x || y.1 == dot0)) = true ∧ x ≠ dot0 ∧
      ((names.filter fun y => y.2 == .cell).map (·.1)) = (if names.lookup x == some .cell then [x] else []) then
      (seenV Γ names).bind fun l => if (l.all fun y => y.2 != nx && y.1 != x) = true then some ⟨(x, nx) :: l, relK Γ names⟩ else none else none
  | _ => none
noncomputable def cOpt (f : Expr → Option IE) : Option Expr → Option IE
  | none => some (.cst .none)
  | some e => f e
noncomputable def isMinus1 (e : Expr) : Bool := match vUn e with
  | some q => isNeg q.1.1 && (match vCst q.1.2 with
    | some c => isOne c.1
    | none => false)
  | none => false
theorem isNeg_is {op : UnaryOp} (h : isNeg op = true) : op = .USub := by cases op <;> first | rfl | exact tE h.symm
theorem isOne_is {c : Const} (h : isOne c = true) : c = .int 1 := by
  cases c with
  | int i => exact congrArg Const.int (of_decide_eq_true h)
  | _ => exact tE h.symm
theorem isMinus1_is {e : Expr} (h : isMinus1 e = true) : ∃ k p p2, e = .UnaryOp .USub (.Constant (.int 1) k p) p2 := by
  delta isMinus1 at h
  cases q : vUn e with
  | none => rw [q] at h; exact tE h.symm
  | some q1 =>
    rw [q] at h
    revert h; refine aBe fun h1 h2 => ?_
    obtain ⟨⟨op, x⟩, p2, e1⟩ := q1
    obtain rfl : op = .USub := isNeg_is h1
    cases q2 : vCst x with
    | none => dsimp only at h2; rw [q2] at h2; exact tE h2.symm
    | some q3 =>
      dsimp only at h2
      rw [q2] at h2
      obtain ⟨c, k, p, e2⟩ := q3
      obtain rfl : c = .int 1 := isOne_is h2
      exact ⟨k, p, p2, by rw [e1, e2]⟩
noncomputable def key1 : Option Expr → Option Str
  | some e => strConst e
  | none => none
theorem key1_is {e : Option Expr} {x : Str} (h : key1 e = some x) : ∃ k p, e = some (.Constant (.str x) k p) := by
  cases e with
  | none => exact zE h
  | some e =>
    obtain ⟨k, p, rfl⟩ := strConst_is h
    exact ⟨k, p, rfl⟩
noncomputable def dict2 : List (Option Expr) → List Expr → Option (Str × Str × Expr × Expr)
  | a :: b :: r, v :: w :: q => if r.isEmpty = true ∧ q.isEmpty = true then (key1 a).bind fun x => (key1 b).bind fun y => some (x, y, v, w) else none
  | _, _ => none
theorem dict2_is {ks : List (Option Expr)} {vs : List Expr} {q : Str × Str × Expr × Expr} (h : dict2 ks vs = some q) : ∃ k1 p1 k2 p2, ks = [some (.Constant (.str q.1) k1 p1), some (.Constant (.str q.2.1) k2 p2)] ∧ vs = [q.2.2.1, q.2.2.2] := by
  cases ks with
  | nil => exact zE h
  | cons a ks =>
  cases ks with
  | nil => exact zE h
  | cons b r =>
  cases vs with
  | nil => exact zE h
  | cons v vs =>
  cases vs with
  | nil => exact zE h
  | cons w z =>
    revert h; refine iE fun he h => ?_
    revert h; refine bE fun x hx h => ?_
    revert h; refine bE fun y hy h => ?_
    obtain rfl := Option.some.inj h
    obtain ⟨k1, p1, rfl⟩ := key1_is hx
    obtain ⟨k2, p2, rfl⟩ := key1_is hy
    rw [List.isEmpty_iff.mp he.1, List.isEmpty_iff.mp he.2]
    exact ⟨k1, p1, k2, p2, rfl, rfl⟩
noncomputable def comp1 : List Comprehension → Option (Str × Expr × List Expr)
  | g :: r => if r.isEmpty = true ∧ g.is_async = 0 then (vNm g.target).bind fun x => some (x.1, g.iter, g.ifs) else none
  | [] => none
theorem comp1_is {gs : List Comprehension} {q : Str × Expr × List Expr} (h : comp1 gs = some q) : ∃ p, gs = [⟨.Name q.1 p, q.2.1, q.2.2, 0⟩] := by
  cases gs with
  | nil => exact zE h
  | cons g r =>
    obtain ⟨t, i, f, a⟩ := g
    revert h; refine iE fun he h => ?_
    revert h; refine bE fun x _ h => ?_
    obtain ⟨x, p, hx⟩ := x
    obtain rfl := Option.some.inj h
    have e1 : t = .Name x p := hx
    have e2 : a = 0 := he.2
    subst e1; subst e2
    rw [List.isEmpty_iff.mp he.1]
    exact ⟨p, rfl⟩
noncomputable def cNm (g : Expr → Option IE) (Γ : CE) (as : List Expr) : GK → Option IE
  | .fn i => (cList g as).bind fun l => some (.call i l)
  | .cls i => (cList g as).bind fun l => some (.new i l)
  | .bi b => oS (lenTab glb Γ b as) ((cList g as).bind fun l => some (.bi b l)) fun xs => some (.cst (.int xs.length))
  | _ => none
noncomputable def cCall (g : Expr → Option IE) (Γ : CE) (cp : Pos) (as : List Expr) (f : Expr) : Option IE :=
  oS (vAt f) ((vNm f).bind fun id => eS (id.1 == ("__debug__" : Str)) (oS (cVar Γ id.1) ((cGlb glb Γ id.1).bind (cNm glb g Γ as)) fun _ => none))
    fun q => eS (bareCall q.1.1) (eS (q.1.2.2.endLine != cp.line) (if as.length < 20 then (meNames.lookup q.1.2.1).bind fun m => (g q.1.1).bind fun e => (cList g as).bind fun l => some (.meth m e l) else none))
noncomputable def cstV : Const → Option V
  | .none => some .none
  | .bool b => some (.bool b)
  | .int i => some (.int i)
  | .str x => some (.str x.cps.toList)
  | _ => none
mutual
noncomputable def cE : Nat → CE → Nat → Expr → Option IE
  | 0, _, _, _ => none
  | n + 1, Γ, nx, e => match e with
    | .Constant c _ _ => (cstV c).bind fun v => some (.cst v)
    | .Name id _ => eS (id == ("__debug__" : Str)) (eS (id == ("__classdict__" : Str)) (oS (cVar Γ id) ((cGlb glb Γ id).bind fun g => (gkCst g).bind fun v => some (.cst v)) fun k => some (.var k)))
    | .BinOp l op r _ => (cE n Γ nx l).bind fun a => (cE n Γ nx r).bind fun b => some (.bin op a b)
    | .UnaryOp op x _ => (match op with
      | .USub => (cE n Γ nx x).bind fun a => some (.neg a)
      | .Invert => (cE n Γ nx x).bind fun a => some (.inv a)
      | .Not => (cE n Γ nx x).bind fun a => some (.not a)
      | _ => none)
    | .IfExp t a b _ => (cT n Γ nx t).bind fun t => (cE n Γ nx a).bind fun a => (cE n Γ nx b).bind fun b => some (.ife t a b)
    | .Compare l ops cs _ => eS (lastMarks ops cs) ((cE n Γ nx l).bind fun a => (cChain (cE n Γ nx) ops cs).bind fun b => some (.cmp a b))
    | .BoolOp op vs _ => (match op with
      | .And => cBop true (cE n Γ nx) vs
      | .Or => cBop false (cE n Γ nx) vs)
    | .Attribute v a _ => eS (bareCall v) ((cE n Γ nx v).bind fun e => (aidx.lookup a).bind fun k => some (.attr e k))
    | .Subscript v s _ => oS (vSl s)
      (oS (strConst s) (oS (tabOf glb Γ v) ((cE n Γ nx v).bind fun e => (cE n Γ nx s).bind fun i => some (.sub e i)) fun xs => (cE n Γ nx s).bind fun i => some (.tab xs i))
        fun x => (cE n Γ nx v).bind fun e => (aidx.lookup x).bind fun k => some (.dsub e k))
      fun q => oS q.1.2.2 ((cE n Γ nx v).bind fun e => (cOpt (cE n Γ nx) q.1.1).bind fun a => (cOpt (cE n Γ nx) q.1.2.1).bind fun b => some (.slice e a b))
        fun st => if q.1.1.isNone = true ∧ q.1.2.1.isNone = true ∧ isMinus1 st = true then (cE n Γ nx v).bind fun e => some (.rev e) else none
    | .List es _ => (cList (cE n Γ nx) es).bind fun l => some (.list l)
    | .Tuple es _ _ => (cList (cE n Γ nx) es).bind fun l => some (.tup l)
    | .Dict ks vs _ => (dict2 ks vs).bind fun q => (aidx.lookup q.1).bind fun a => (aidx.lookup q.2.1).bind fun b => if a = b then none else (cE n Γ nx q.2.2.1).bind fun v => (cE n Γ nx q.2.2.2).bind fun w =>
        some (.dict [a, b] (.cons v (.cons w .nil)))
    | .Call f as kws cp => if kws.isEmpty = true then cCall glb (cE n Γ nx) Γ cp as f else none
    | .ListComp elt gens sc _ => (comp1 gens).bind fun g => if sc.kind = .function then (compCE Γ sc.names g.1 nx).bind fun Γ' => (cE n Γ nx g.2.1).bind fun s => (cTests (cT n Γ' (nx + 1)) g.2.2).bind fun t =>
        (cE n Γ' (nx + 1) elt).bind fun e => some (.comp nx s t e) else none
    | _ => none
noncomputable def cT : Nat → CE → Nat → Expr → Option IT
  | 0, _, _, _ => none
  | n + 1, Γ, nx, e => match e with
    | .UnaryOp op x p => (match op with
      | .Not => (cT n Γ nx x).bind fun a => some (.not a)
      | op => (cE n Γ nx (.UnaryOp op x p)).bind fun a => some (.val a))
    | .BoolOp op vs _ => (match op with
      | .And => cBopT true (cT n Γ nx) vs
      | .Or => cBopT false (cT n Γ nx) vs)
    | .IfExp .. => none
    | .Compare l ops cs _ => eS (lastMarks ops cs) ((cE n Γ nx l).bind fun a => (cChain (cE n Γ nx) ops cs).bind fun b => some (.cmp a b))
    | e => (cE n Γ nx e).bind fun a => some (.val a)
end
noncomputable def cSlots (Γ : CE) : List Expr → Option (List Nat)
  | [] => some []
  | e :: r => (vNm e).bind fun id => (cVar Γ id.1).bind fun k => (cSlots Γ r).bind fun l => some (k :: l)
noncomputable def cAttrs (Γ : CE) : List Expr → Option (List (Nat × Nat))
  | [] => some []
  | e :: r => (vAt e).bind fun q => (vNm q.1.1).bind fun id => eS (id.1 == ("__debug__" : Str)) (eS (id.1 == ("__classdict__" : Str)) ((cVar Γ id.1).bind fun k => (aidx.lookup q.1.2.1).bind fun a => (cAttrs Γ r).bind fun l => some ((k, a) :: l)))
noncomputable def cSs (f : Stmt → Option IS) : List Stmt → Option ISs
  | [] => some .nil
  | s :: r => (f s).bind fun a => (cSs f r).bind fun b => some (.cons a b)
noncomputable def names1 : List Expr → Option (List Str)
  | [] => some []
  | e :: r => (vNm e).bind fun id => (names1 r).bind fun l => eS (l.contains id.1) (some (id.1 :: l))
noncomputable def swOk : Expr → Bool
  | .Tuple vs _ _ => !(vs.all (constantsAlone 8)) || vs.all (foldedForSure 8)
  | _ => true
noncomputable def cS : Nat → CE → Nat → Stmt → Option IS
  | 0, _, _, _ => none
  | n + 1, Γ, nx, s => match s with
    | .Assign ts v _ => (one ts).bind fun t => (match t with
      | .Name id _ => (cVar Γ id).bind fun k => eS (isComp v && Γ.kinds.lookup id != some .local) ((cE glb aidx n Γ nx v).bind fun e => some (.asg k e))
      | .Attribute o a _ => eS (isComp v) ((cE glb aidx n Γ nx v).bind fun e => (cE glb aidx n Γ nx o).bind fun o => (aidx.lookup a).bind fun a => some (.asgA o a e))
      | .Subscript o i _ => eS (isComp v) (oS (vSl i) ((cE glb aidx n Γ nx v).bind fun e => (cE glb aidx n Γ nx o).bind fun o => (cE glb aidx n Γ nx i).bind fun i => some (.asgS o i e)) fun _ => none)
      | .Tuple ts _ _ => eS (isComp v || !swOk v) (oS (names1 ts) ((cAttrs aidx Γ ts).bind fun ks => (cE glb aidx n Γ nx v).bind fun e => some (.unpA ks e))
          fun _ => (cSlots Γ ts).bind fun ks => (cE glb aidx n Γ nx v).bind fun e => some (.unp ks e))
      | _ => none)
    | .AugAssign t op v _ => (match t with
      | .Name id _ => eS (id == ("__classdict__" : Str)) ((cVar Γ id).bind fun k => (cE glb aidx n Γ nx v).bind fun e => some (.aug k op e))
      | .Attribute o a _ => (cE glb aidx n Γ nx o).bind fun o => (aidx.lookup a).bind fun a => (cE glb aidx n Γ nx v).bind fun e => some (.augA o a op e)
      | .Subscript o i _ => oS (vSl i) (oS (strConst i) ((cE glb aidx n Γ nx o).bind fun o => (cE glb aidx n Γ nx i).bind fun i => (cE glb aidx n Γ nx v).bind fun e => some (.augS o i op e))
          fun x => (cE glb aidx n Γ nx o).bind fun o => (aidx.lookup x).bind fun a => (cE glb aidx n Γ nx v).bind fun e => some (.augD o a op e)) fun _ => none
      | _ => none)
    | .If t a b _ => (cT glb aidx n Γ nx t).bind fun t => (cSs (cS n Γ nx) a).bind fun a => (cSs (cS n Γ nx) b).bind fun b => some (.ife t a b)
    | .For t iter body orelse _ => if orelse.isEmpty = true then (match t with
      | .Name id _ => (cVar Γ id).bind fun k => (cE glb aidx n Γ nx iter).bind fun e => (cSs (cS n Γ nx) body).bind fun b => some (.for_ k e b)
      | .Tuple ts _ _ => (names1 ts).bind fun _ => (cSlots Γ ts).bind fun ks => (cE glb aidx n Γ nx iter).bind fun e => (cSs (cS n Γ nx) body).bind fun b => some (.forT ks e b)
      | _ => none) else none
    | .While t body orelse _ => if orelse.isEmpty = true then (cT glb aidx n Γ nx t).bind fun t => (cSs (cS n Γ nx) body).bind fun b => some (.while_ 100 t b) else none
    | .Return v _ => (match v with
     | some v => (cE glb aidx n Γ nx v).bind fun e => some (.ret e)
     | none => some .retN)
    | .Expr v _ => eS (isComp v) ((cE glb aidx n Γ nx v).bind fun e => some (.exp e))
    | .Continue _ => some .cont
    | .Try body hs els fin _ => if hs.isEmpty = false ∧ els.isEmpty = true ∧ fin.isEmpty = true then (cSs (cS n Γ nx) body).bind fun b => some (.try_ b) else none
    | .Raise .. => some .raise_
    | _ => none
end
noncomputable def aidxOf : Nat → List String → List (Str × Nat)
  | _, [] => []
  | i, x :: r => ((x : Str), i) :: aidxOf (i + 1) r
noncomputable def aidx : List (Str × Nat) := aidxOf 0 anames
noncomputable def codes (x : String) : List Nat := x.toList.map Char.toNat
noncomputable def consts : List (Str × GK) :=
  [("len", GK.bi .len), ("range", GK.bi .range), ("str", GK.bi .str), ("int", GK.bi .int),
   ("WHITE", GK.int 0), ("BLACK", GK.int 1), ("PAWN", GK.int 1), ("KNIGHT", GK.int 2), ("BISHOP", GK.int 3), ("ROOK", GK.int 4), ("QUEEN", GK.int 5), ("KING", GK.int 6), ("EMPTY", GK.int 0), ("MOST_FIGURES", GK.int 255),
   ("LETTERS", GK.str (codes ".PNBRQK..pnbrqk")), ("DIGITS", GK.str (codes "0123456789")), ("RIGHT_LETTERS", GK.str (codes "KQkq")), ("FILE_LETTERS", GK.str (codes "abcdefgh")), ("RANK_DIGITS", GK.str (codes "12345678")),
   ("STEP_FILES", GK.tup [0, 1, 0, -1, 1, 1, -1, -1]), ("STEP_RANKS", GK.tup [1, 0, -1, 0, 1, -1, -1, 1]), ("_law_rest", GK.tup [3, 3, 0, 2, 4, 8, 1, 0, 16, 0, 1, 12, 0, 0, 1, 4, 1, 1, 7, 40])]
noncomputable def glb : List (Str × GK) :=
  fnames.map (fun (i, x) => ((x : Str), GK.fn i)) ++ cnames.map (fun (i, x) => ((x : Str), GK.cls i)) ++
  consts
noncomputable def slotsOf : Nat → List (Str × NameKind) → List (Str × Nat)
  | _, [] => []
  | i, (x, .local) :: r | i, (x, .cell) :: r => (x, i) :: slotsOf (i + 1) r
  | i, _ :: r => slotsOf i r
noncomputable def plainArgs (p : Arguments) : Option (List Str) :=
  if p.posonlyargs.isEmpty = true ∧ p.vararg.isNone = true ∧ p.kwonlyargs.isEmpty = true ∧ p.kw_defaults.isEmpty = true ∧ p.kwarg.isNone = true ∧ p.defaults.isEmpty = true then some (p.args.map (·.arg)) else none
noncomputable def depthC : Nat := 60
noncomputable def ceOf (names : List (Str × NameKind)) : CE := ⟨slotsOf 0 names, names⟩
noncomputable def cFn (params : Arguments) (scope : Scope) (body : List Stmt) : Option (List Str × ISs) :=
  (plainArgs params).bind fun as =>
    if (scope.names.all fun x => x.2 != .free) = true ∧ scope.kind = .function ∧ scope.isGenerator = false ∧ scope.isCoroutine = false ∧ as.Nodup ∧
      (slotsOf 0 scope.names).take as.length = (as.zip (List.range as.length)) ∧ (as.all fun x => scope.names.lookup x == some .local) = true ∧ hasAnns body = false ∧ (docOf body).isNone = true then
    (cSs (cS glb aidx depthC (ceOf scope.names) (slotsOf 0 scope.names).length) body).bind fun b => some (as, b) else none
end Mine
namespace Mine
open PySem PySem.W PyProof.Rows
noncomputable abbrev Rho := List (Addr × Addr)
noncomputable def Trk (ρ : Rho) (a : Addr) : Prop := ∃ p ∈ ρ, a = p.1 ∨ a = p.2
theorem Trk.app {ρ ρ' : Rho} {a : Addr} : Trk (ρ ++ ρ') a ↔ Trk ρ a ∨ Trk ρ' a := by
  unfold Trk
  constructor
  · rintro ⟨p, hp, h⟩
    rcases List.mem_append.mp hp with q | q
    · exact .inl ⟨p, q, h⟩
    · exact .inr ⟨p, q, h⟩
  · rintro (⟨p, hp, h⟩ | ⟨p, hp, h⟩)
    · exact ⟨p, List.mem_append_left _ hp, h⟩
    · exact ⟨p, List.mem_append_right _ hp, h⟩
theorem Trk.nil {a : Addr} : ¬ Trk [] a := fun ⟨_, h, _⟩ => nomatch h
theorem Trk.fst {ρ : Rho} {i : Nat} {p : Addr × Addr} (h : ρ[i]? = some p) : Trk ρ p.1 := ⟨p, List.mem_of_getElem? h, .inl rfl⟩
theorem Trk.snd {ρ : Rho} {i : Nat} {p : Addr × Addr} (h : ρ[i]? = some p) : Trk ρ p.2 := ⟨p, List.mem_of_getElem? h, .inr rfl⟩
noncomputable def anm (a : Nat) : Str := Str.ofString (anames.getD a "?")
noncomputable abbrev tupObj (us : List Value) (k : Nat) : Obj := ⟨.type "tuple", none, .seq us.toArray k, #[]⟩
noncomputable abbrev lstObj (us : List Value) (k : Nat) : Obj := ⟨.type "list", none, .seq us.toArray k, #[]⟩
mutual
inductive VRep (h : Heap) (ρ : Rho) : V → Value → Prop
  | none : VRep h ρ .none .none
  | bool (b : Bool) : VRep h ρ (.bool b) (.bool b)
  | int (i : Int) (t : Tok) : VRep h ρ (.int i) (.int i t)
  | str (x : List Nat) (t : Tok) : VRep h ρ (.str x) (.str ⟨x.toArray⟩ t)
  | obj {n : Nat} {p : Addr × Addr} (e : ρ[n]? = some p) : VRep h ρ (.obj n) (.ref p.1)
  | tup {a : Addr} {vs : List V} {us : List Value} {k : Nat} (e : h.get? a = some (tupObj us k)) (n : ¬ Trk ρ a) (r : VsRep h ρ vs us) : VRep h ρ (.tup vs) (.ref a)
  | range {a : Addr} {x y z : Int} {t u v : Tok} (e : IsRange h a x y z t u v) (n : ¬ Trk ρ a) : VRep h ρ (.range x y z) (.ref a)
inductive VsRep (h : Heap) (ρ : Rho) : List V → List Value → Prop
  | nil : VsRep h ρ [] []
  | cons {v : V} {u : Value} {vs : List V} {us : List Value} (a : VRep h ρ v u) (b : VsRep h ρ vs us) : VsRep h ρ (v :: vs) (u :: us)
end
noncomputable def Kp (ρ : Rho) (h h' : Heap) : Prop := ∀ b o, ¬ Trk ρ b → h.get? b = some o → h'.get? b = some o
structure Ext (h : Heap) (ρ : Rho) (h' : Heap) (ρ' : Rho) : Prop where
  new : ∃ n, ρ' = ρ ++ n ∧ ∀ p ∈ n, h.get? p.1 = none ∧ h.get? p.2 = none
  keep : Kp ρ h h'
theorem Ext.refl (h : Heap) (ρ : Rho) : Ext h ρ h ρ := ⟨⟨[], by simp, fun _ h => nomatch h⟩, fun _ _ _ e => e⟩
theorem Ext.get {h h' : Heap} {ρ ρ' : Rho} (x : Ext h ρ h' ρ') {i : Nat} {p : Addr × Addr} (e : ρ[i]? = some p) : ρ'[i]? = some p := by
  obtain ⟨n, rfl, _⟩ := x.new
  rw [List.getElem?_append_left]
  · exact e
  · exact (List.getElem?_eq_some_iff.mp e).1
theorem Ext.trk {h h' : Heap} {ρ ρ' : Rho} (x : Ext h ρ h' ρ') {a : Addr} (t : Trk ρ a) : Trk ρ' a := by
  obtain ⟨n, rfl, _⟩ := x.new
  exact Trk.app.mpr (.inl t)
theorem Ext.off {h h' : Heap} {ρ ρ' : Rho} (x : Ext h ρ h' ρ') {a : Addr} {o : Obj} (e : h.get? a = some o) (t : ¬ Trk ρ a) : ¬ Trk ρ' a := by
  obtain ⟨n, rfl, hn⟩ := x.new
  intro q
  rcases Trk.app.mp q with q | ⟨p, hp, q⟩
  · exact t q
  · rcases q with rfl | rfl
    · rw [(hn p hp).1] at e; cases e
    · rw [(hn p hp).2] at e; cases e
theorem VRep.str_is {h : Heap} {ρ : Rho} {x : List Nat} {u : Value} (r : VRep h ρ (.str x) u) : ∃ t, u = .str ⟨x.toArray⟩ t := by cases r; exact ⟨_, rfl⟩
theorem VRep.int_is {h : Heap} {ρ : Rho} {x : Int} {u : Value} (r : VRep h ρ (.int x) u) : ∃ t, u = .int x t := by cases r; exact ⟨_, rfl⟩
theorem intRef {ρ : Rho} {h : Heap} {n : Int} {u : Value} (r : VRep h ρ (.int n) u) : ∃ t, u = .int n t := r.int_is
theorem strRef {ρ : Rho} {h : Heap} {n : List Nat} {u : Value} (r : VRep h ρ (.str n) u) : ∃ t, u = .str ⟨n.toArray⟩ t := r.str_is
theorem noneRef {ρ : Rho} {h : Heap} {u : Value} (r : VRep h ρ .none u) : u = .none := by
  cases r; rfl
theorem boolRef {ρ : Rho} {h : Heap} {b : Bool} {u : Value} (r : VRep h ρ (.bool b) u) : u = .bool b := by
  cases r; rfl
theorem tupRef {ρ : Rho} {h : Heap} {vs : List V} {u : Value} (r : VRep h ρ (.tup vs) u) : ∃ a us k, u = .ref a ∧ h.get? a = some (tupObj us k) ∧ ¬ Trk ρ a ∧ VsRep h ρ vs us := by
  cases r with
  | tup e n r => exact ⟨_, _, _, rfl, e, n, r⟩
theorem rangeRef {ρ : Rho} {h : Heap} {x y z : Int} {u : Value} (r : VRep h ρ (.range x y z) u) : ∃ a t t2 t3, u = .ref a ∧ IsRange h a x y z t t2 t3 ∧ ¬ Trk ρ a := by
  cases r with
  | range e n => exact ⟨_, _, _, _, rfl, e, n⟩
theorem objRef {ρ : Rho} {h : Heap} {n : Nat} {u : Value} (r : VRep h ρ (.obj n) u) : ∃ p, ρ[n]? = some p ∧ u = .ref p.1 := by
  cases r with
  | obj e => exact ⟨_, e, rfl⟩
section
variable {h : Heap} {ρ : Rho}
theorem VsRep.invN {us : List Value} (r : VsRep h ρ [] us) : us = [] := by cases r; rfl
theorem VsRep.invC {v : V} {vs : List V} {us : List Value} (r : VsRep h ρ (v :: vs) us) : ∃ u w, us = u :: w ∧ VRep h ρ v u ∧ VsRep h ρ vs w := by
  cases r with
  | cons a b => exact ⟨_, _, rfl, a, b⟩
end
mutual
theorem VRep.ext {h h' : Heap} {ρ ρ' : Rho} (x : Ext h ρ h' ρ') : ∀ {v : V} {u : Value}, VRep h ρ v u → VRep h' ρ' v u
  | .none, _, r => by rw [noneRef r]; exact .none
  | .bool b, _, r => by rw [boolRef r]; exact .bool b
  | .int i, _, r => by obtain ⟨t, rfl⟩ := r.int_is; exact .int i t
  | .str y, _, r => by obtain ⟨t, rfl⟩ := r.str_is; exact .str y t
  | .obj _, _, r => by obtain ⟨p, e, rfl⟩ := objRef r; exact .obj (x.get e)
  | .tup _, _, r => by obtain ⟨a, us, k, rfl, e, n, r⟩ := tupRef r; exact .tup (x.keep _ _ n e) (x.off e n) (VsRep.ext x r)
  | .range _ _ _, _, r => by obtain ⟨a, t1, t2, t3, rfl, e, n⟩ := rangeRef r; exact .range (x.keep _ _ n e) (x.off e n)
theorem VsRep.ext {h h' : Heap} {ρ ρ' : Rho} (x : Ext h ρ h' ρ') : ∀ {v : List V} {u : List Value}, VsRep h ρ v u → VsRep h' ρ' v u
  | [], _, r => by rw [r.invN]; exact .nil
  | _ :: _, _, r => by obtain ⟨u, w, rfl, a, b⟩ := r.invC; exact .cons (VRep.ext x a) (VsRep.ext x b)
end
section
variable {h : Heap} {ρ : Rho}
theorem VsRep.length : ∀ {v : List V} {u : List Value}, VsRep h ρ v u → v.length = u.length
  | [], _, r => by rw [r.invN]; rfl
  | _ :: _, _, r => by obtain ⟨u, w, rfl, _, b⟩ := r.invC; exact congrArg (· + 1) (VsRep.length b)
theorem VsRep.get : ∀ {v : List V} {u : List Value}, VsRep h ρ v u → ∀ {i : Nat} {a : V}, v[i]? = some a → ∃ b, u[i]? = some b ∧ VRep h ρ a b
  | [], _, _, _, _, e => nomatch e
  | _ :: _, _, r, i, a, e => by
    obtain ⟨u, w, rfl, ra, b⟩ := r.invC
    cases i with
    | zero => obtain rfl := Option.some.inj e; exact ⟨u, rfl, ra⟩
    | succ i => exact VsRep.get b (i := i) e
theorem VsRep.append : ∀ {v : List V} {u : List Value} {v' : List V} {u' : List Value}, VsRep h ρ v u → VsRep h ρ v' u' → VsRep h ρ (v ++ v') (u ++ u')
  | [], _, _, _, r, k => by rw [r.invN]; exact k
  | _ :: _, _, _, _, r, k => by obtain ⟨u, w, rfl, a, b⟩ := r.invC; exact .cons a (VsRep.append b k)
theorem VsRep.reverse : ∀ {v : List V} {u : List Value}, VsRep h ρ v u → VsRep h ρ v.reverse u.reverse
  | [], _, r => by rw [r.invN]; exact .nil
  | _ :: _, _, r => by
    obtain ⟨u, w, rfl, a, b⟩ := r.invC
    rw [List.reverse_cons, List.reverse_cons]
    exact VsRep.append (VsRep.reverse b) (.cons a .nil)
theorem VsRep.set {a : V} {b : Value} (k : VRep h ρ a b) : ∀ {v : List V} {u : List Value}, VsRep h ρ v u → ∀ i, VsRep h ρ (v.set i a) (u.set i b)
  | [], _, r, _ => by rw [r.invN]; exact .nil
  | _ :: _, _, r, i => by
    obtain ⟨u, w, rfl, x, y⟩ := r.invC
    cases i with
    | zero => exact .cons k y
    | succ i => exact .cons x (VsRep.set k y i)
theorem VsRep.take : ∀ {v : List V} {u : List Value}, VsRep h ρ v u → ∀ i, VsRep h ρ (v.take i) (u.take i)
  | [], _, r, i => by rw [r.invN, List.take_nil, List.take_nil]; exact .nil
  | _ :: _, _, r, i => by
    obtain ⟨u, w, rfl, x, y⟩ := r.invC
    cases i with
    | zero => exact .nil
    | succ i => exact .cons x (VsRep.take y i)
theorem VsRep.drop : ∀ {v : List V} {u : List Value}, VsRep h ρ v u → ∀ i, VsRep h ρ (v.drop i) (u.drop i)
  | [], _, r, i => by rw [r.invN, List.drop_nil, List.drop_nil]; exact .nil
  | _ :: _, _, r, i => by
    obtain ⟨u, w, rfl, x, y⟩ := r.invC
    cases i with
    | zero => exact .cons x y
    | succ i => exact VsRep.drop y i
end
theorem VsRep.rep {h : Heap} {ρ : Rho} {v : List V} {u : List Value} (r : VsRep h ρ v u) : ∀ n, VsRep h ρ (repL v n) (List.replicate n u).flatten
  | 0 => .nil
  | n + 1 => by
    rw [List.replicate_succ, List.flatten_cons]
    exact VsRep.append r (VsRep.rep r n)
theorem strs_cons {a : V} {v : List V} {xs : List (List Nat)} (e : strsOf (a :: v) = some xs) : ∃ x ys, a = .str x ∧ strsOf v = some ys ∧ xs = x :: ys := by
  cases a with
  | str x => exact mE (fun ys e1 e2 => ⟨x, ys, rfl, e1, e2.symm⟩) e
  | _ => exact zE e
theorem ints_cons {a : V} {v : List V} {xs : List Int} (e : intsOf (a :: v) = some xs) : ∃ x ys, a = .int x ∧ intsOf v = some ys ∧ xs = x :: ys := by
  cases a with
  | int x => exact mE (fun ys e1 e2 => ⟨x, ys, rfl, e1, e2.symm⟩) e
  | _ => exact zE e
theorem VsRep.strs {h : Heap} {ρ : Rho} : ∀ {v : List V} {u : List Value} {xs : List (List Nat)}, VsRep h ρ v u → strsOf v = some xs → ∃ ts : List Tok, ts.length = xs.length ∧ u = (xs.zip ts).map fun p => Value.str ⟨p.1.toArray⟩ p.2
  | [], _, _, r, e => by obtain rfl := Option.some.inj e; exact ⟨[], rfl, r.invN⟩
  | _ :: _, _, _, r, e => by
    obtain ⟨u, w, rfl, r, b⟩ := r.invC
    obtain ⟨x, ys, rfl, e2, rfl⟩ := strs_cons e
    obtain ⟨t, rfl⟩ := r.str_is
    obtain ⟨ts, l, rfl⟩ := VsRep.strs b e2
    exact ⟨t :: ts, congrArg (· + 1) l, rfl⟩
theorem VsRep.ints {h : Heap} {ρ : Rho} : ∀ {v : List V} {u : List Value} {xs : List Int}, VsRep h ρ v u → intsOf v = some xs → ∃ ts : List Tok, ts.length = xs.length ∧ u = (xs.zip ts).map fun p => Value.int p.1 p.2
  | [], _, _, r, e => by obtain rfl := Option.some.inj e; exact ⟨[], rfl, r.invN⟩
  | _ :: _, _, _, r, e => by
    obtain ⟨u, w, rfl, r, b⟩ := r.invC
    obtain ⟨x, ys, rfl, e2, rfl⟩ := ints_cons e
    obtain ⟨t, rfl⟩ := r.int_is
    obtain ⟨ts, l, rfl⟩ := VsRep.ints b e2
    exact ⟨t :: ts, congrArg (· + 1) l, rfl⟩
theorem VsRep.ofStrs {h : Heap} {ρ : Rho} : ∀ (xs : List (List Nat)) (ts : List Tok), ts.length = xs.length → VsRep h ρ (xs.map .str) ((xs.zip ts).map fun p => Value.str ⟨p.1.toArray⟩ p.2)
  | [], _, _ => .nil
  | x :: xs, t :: ts, e => .cons (.str x t) (VsRep.ofStrs xs ts (by simpa using e))
  | _ :: _, [], e => by simp at e
structure Ctx where
  prog : Program
  w : World
  K : Frag
  g : Heap
  loose : List Str
  mean : ExcName → Option Value
  mg : Str → Option Value
  mb : Str → Option Value
  p : Program
  top : Top p loose mean mg mb g
  inK : K.In g
  cls : Nat → Addr
structure FsRep (h : Heap) (ρ : Rho) (fs : List (Nat × V)) (es : List DictEntry) : Prop where
  len : es.length ≤ fs.length
  keys : ∀ e ∈ es, ∃ x t, e.key = .str x t
  small : ∀ a v, getF a fs = some v → a < 28
  get : ∀ a v, getF a fs = some v → ∃ u, getL (anm a) es = some (some u) ∧ VRep h ρ v u
structure KvRep (h : Heap) (ρ : Rho) (fs : List (Nat × V)) (kvs : List (Str × Value)) : Prop where
  len : kvs.length ≤ 100
  small : ∀ a v, getF a fs = some v → a < 28
  get : ∀ a v, getF a fs = some v → ∃ u, valueAt kvs (anm a) = some u ∧ VRep h ρ v u
inductive ORep (c : Ctx) (h : Heap) (ρ : Rho) (p : Addr × Addr) : AO → Prop
  | list {vs : List V} {us : List Value} {k : Nat} (e : h.get? p.1 = some (lstObj us k)) (r : VsRep h ρ vs us) (d : p.2 = p.1) : ORep c h ρ p (.list vs)
  | inst {C : Nat} {fs : List (Nat × V)} {es : List DictEntry} {k : Nat} (l : C < 3) (e : h.get? p.1 = some (instObj (c.cls C) p.2)) (d : h.get? p.2 = some (dictOf es k)) (r : FsRep h ρ fs es) (n : p.1 ≠ p.2) : ORep c h ρ p (.inst C fs)
  | dict {fs : List (Nat × V)} {kvs : List (Str × Value)} (e : h.DictOf (strKind c.prog c.w) p.1 kvs) (r : KvRep h ρ fs kvs) (d : p.2 = p.1) : ORep c h ρ p (.dict fs)
theorem FsRep.ext {h h' : Heap} {ρ ρ' : Rho} (x : Ext h ρ h' ρ') {fs : List (Nat × V)} {es : List DictEntry} (r : FsRep h ρ fs es) : FsRep h' ρ' fs es :=
  ⟨r.len, r.keys, r.small, fun a v e => let ⟨u, q, y⟩ := r.get a v e; ⟨u, q, y.ext x⟩⟩
theorem KvRep.ext {h h' : Heap} {ρ ρ' : Rho} (x : Ext h ρ h' ρ') {fs : List (Nat × V)} {kvs : List (Str × Value)} (r : KvRep h ρ fs kvs) : KvRep h' ρ' fs kvs :=
  ⟨r.len, r.small, fun a v e => let ⟨u, q, y⟩ := r.get a v e; ⟨u, q, y.ext x⟩⟩
theorem dictOf_at {c : Ctx} {h h' : Heap} {a : Addr} {kvs : List (Str × Value)} (d : h.DictOf (strKind c.prog c.w) a kvs) (k : ∀ o, h.get? a = some o → h'.get? a = some o) : h'.DictOf (strKind c.prog c.w) a kvs :=
  let ⟨o, es, ep, ho, r⟩ := d; ⟨o, es, ep, k o ho, r⟩
structure Inv (c : Ctx) (σ : AH) (ρ : Rho) (h : Heap) : Prop where
  keep : ∀ b o, c.g.get? b = some o → h.get? b = some o
  off : ∀ b, Trk ρ b → c.g.get? b = none
  len : ρ.length = σ.length
  obj : ∀ (i : Nat) (o : AO) (p : Addr × Addr), σ[i]? = some o → ρ[i]? = some p → ORep c h ρ p o
  sep : ∀ (i j : Nat) (p q : Addr × Addr), ρ[i]? = some p → ρ[j]? = some q → i ≠ j → p.1 ≠ q.1 ∧ p.1 ≠ q.2 ∧ p.2 ≠ q.1 ∧ p.2 ≠ q.2
section
variable {c : Ctx} {σ σ' : AH} {ρ ρ' : Rho} {h h' : Heap}
theorem Inv.at (I : Inv c σ ρ h) {n : Nat} {o : AO} (e : σ[n]? = some o) : ∃ p, ρ[n]? = some p ∧ ORep c h ρ p o := by
  have hl : n < ρ.length := by rw [I.len]; exact (List.getElem?_eq_some_iff.mp e).1
  exact ⟨ρ[n], List.getElem?_eq_getElem hl, I.obj n o _ e (List.getElem?_eq_getElem hl)⟩
theorem Inv.of (I : Inv c σ ρ h) {n : Nat} {p : Addr × Addr} (e : ρ[n]? = some p) : ∃ o, σ[n]? = some o ∧ ORep c h ρ p o := by
  have hl : n < σ.length := by rw [← I.len]; exact (List.getElem?_eq_some_iff.mp e).1
  exact ⟨σ[n], List.getElem?_eq_getElem hl, I.obj n _ _ (List.getElem?_eq_getElem hl) e⟩
theorem ORep.live {p : Addr × Addr} {o : AO} (r : ORep c h ρ p o) : (∃ x, h.get? p.1 = some x) ∧ ∃ x, h.get? p.2 = some x := by
  cases r with
  | list e r d => exact ⟨⟨_, e⟩, ⟨_, d ▸ e⟩⟩
  | inst l e d r n => exact ⟨⟨_, e⟩, ⟨_, d⟩⟩
  | dict e r d => obtain ⟨o, es, ep, ho, _⟩ := e; exact ⟨⟨_, ho⟩, ⟨_, d ▸ ho⟩⟩
theorem Inv.live (I : Inv c σ ρ h) {a : Addr} (t : Trk ρ a) : ∃ x, h.get? a = some x := by
  obtain ⟨p, hp, q⟩ := t
  obtain ⟨i, hi, rfl⟩ := List.getElem_of_mem hp
  obtain ⟨o, _, r⟩ := I.of (List.getElem?_eq_getElem hi)
  rcases q with rfl | rfl
  · exact r.live.1
  · exact r.live.2
theorem Inv.fresh (I : Inv c σ ρ h) {a : Addr} (e : h.get? a = none) : ¬ Trk ρ a := fun t => by
  obtain ⟨x, q⟩ := I.live t
  rw [e] at q; cases q
theorem Inv.inK (I : Inv c σ ρ h) : c.K.In h := c.inK.keeps I.keep
theorem Inv.top (I : Inv c σ ρ h) : Top c.p c.loose c.mean c.mg c.mb h := c.top.keeps I.keep
theorem Inv.untr (I : Inv c σ ρ h) {a : Addr} {o : Obj} (e : c.g.get? a = some o) : ¬ Trk ρ a := fun t => by rw [I.off a t] at e; cases e
theorem Ext.trans {h'' : Heap} {ρ'' : Rho} (I : Inv c σ' ρ' h') (x : Ext h ρ h' ρ') (y : Ext h' ρ' h'' ρ'') : Ext h ρ h'' ρ'' := by
  obtain ⟨n, rfl, hn⟩ := x.new
  obtain ⟨m, rfl, hm⟩ := y.new
  have gone : ∀ a : Addr, h'.get? a = none → h.get? a = none := fun a e => by
    cases q : h.get? a with
    | none => rfl
    | some o =>
      by_cases t : Trk ρ a
      · exact absurd (Trk.app.mpr (.inl t)) (I.fresh e)
      · rw [x.keep a o t q] at e; cases e
  refine ⟨⟨n ++ m, by simp, fun p hp => ?_⟩, fun b o t e => y.keep b o (fun q => ?_) (x.keep b o t e)⟩
  · rcases List.mem_append.mp hp with q | q
    · exact hn p q
    · exact ⟨gone _ (hm p q).1, gone _ (hm p q).2⟩
  · exact x.off e t q
end
theorem get?_push_lt {h : Heap} {o : Obj} {b : Addr} (e : b ≠ h.objs.size) : (h.push o).get? b = h.get? b := by
  cases q : h.get? b with
  | some x => exact Heap.get?_push_of_some o q
  | none =>
    cases r : (h.push o).get? b with
    | none => rfl
    | some x =>
      have hl := Heap.lt_size r
      rw [Heap.size_push] at hl
      have hl' : b < h.objs.size := Nat.lt_of_le_of_ne (Nat.le_of_lt_succ hl) e
      obtain ⟨e1, e2⟩ := Heap.get?_some_iff.mp r
      have : h.objs[b]? = some x := by
        cases h
        simpa [Heap.push, Array.getElem?_push, Nat.ne_of_lt hl'] using e1
      rw [Heap.get?_some_iff.mpr ⟨this, e2⟩] at q
      cases q
theorem get?_size (h : Heap) : h.get? h.objs.size = none := by
  cases q : h.get? h.objs.size with
  | none => rfl
  | some x => exact absurd (Heap.lt_size q) (Nat.lt_irrefl _)
section
variable {c : Ctx} {σ : AH} {ρ : Rho} {h h' : Heap}
theorem ORep.ext {p : Addr × Addr} {o : AO} {ρ' : Rho} (r : ORep c h ρ p o) (x : Ext h ρ h' ρ') (e1 : ∀ o, h.get? p.1 = some o → h'.get? p.1 = some o) (e2 : ∀ o, h.get? p.2 = some o → h'.get? p.2 = some o) : ORep c h' ρ' p o := by
  cases r with
  | list e r d => exact .list (e1 _ e) (r.ext x) d
  | inst l e d r n => exact .inst l (e1 _ e) (e2 _ d) (r.ext x) n
  | dict e r d => exact .dict (dictOf_at e e1) (r.ext x) d
theorem Ext.all (k : ∀ b o, h.get? b = some o → h'.get? b = some o) : Ext h ρ h' ρ := ⟨⟨[], by simp, fun _ h => nomatch h⟩, fun b o _ e => k b o e⟩
theorem Inv.all (I : Inv c σ ρ h) (k : ∀ b o, h.get? b = some o → h'.get? b = some o) : Inv c σ ρ h' :=
  ⟨fun b o e => k b o (I.keep b o e), I.off, I.len, fun i o p a b => (I.obj i o p a b).ext (Ext.all k) (fun o => k _ o) (fun o => k _ o), I.sep⟩
theorem Inv.push (I : Inv c σ ρ h) (o : Obj) : Inv c σ ρ (h.push o) := I.all fun _ _ e => Heap.get?_push_of_some o e
theorem Ext.push (o : Obj) : Ext h ρ (h.push o) ρ := Ext.all fun _ _ e => Heap.get?_push_of_some o e
theorem Inv.alloc (I : Inv c σ ρ h) {q : Addr × Addr} {o : AO} (k : ∀ b x, h.get? b = some x → h'.get? b = some x) (n1 : h.get? q.1 = none) (n2 : h.get? q.2 = none) (r : ORep c h' (ρ ++ [q]) q o) :
    Inv c (σ ++ [o]) (ρ ++ [q]) h' ∧ Ext h ρ h' (ρ ++ [q]) := by
  have x : Ext h ρ h' (ρ ++ [q]) := ⟨⟨[q], rfl, fun p hp => by rw [List.mem_singleton.mp hp]; exact ⟨n1, n2⟩⟩, fun b o _ e => k b o e⟩
  have hg : ∀ b, Trk [q] b → c.g.get? b = none := fun b ⟨p, hp, hb⟩ => by
    rw [List.mem_singleton.mp hp] at hb
    cases e : c.g.get? b with
    | none => rfl
    | some o =>
      have := I.keep b o e
      rcases hb with rfl | rfl
      · rw [n1] at this; cases this
      · rw [n2] at this; cases this
  have lv : ∀ {i : Nat} {p : Addr × Addr}, ρ[i]? = some p → p.1 ≠ q.1 ∧ p.1 ≠ q.2 ∧ p.2 ≠ q.1 ∧ p.2 ≠ q.2 := fun e => by
    obtain ⟨y, hy⟩ := I.live (Trk.fst e)
    obtain ⟨z, hz⟩ := I.live (Trk.snd e)
    refine ⟨fun q => ?_, fun q => ?_, fun q => ?_, fun q => ?_⟩
    · rw [q, n1] at hy; cases hy
    · rw [q, n2] at hy; cases hy
    · rw [q, n1] at hz; cases hz
    · rw [q, n2] at hz; cases hz
  refine ⟨⟨fun b o e => k b o (I.keep b o e), fun b t => (Trk.app.mp t).elim (I.off b) (hg b), by simp [I.len], ?_, ?_⟩, x⟩
  · intro i o' p ho hp
    by_cases hi : i < σ.length
    · rw [List.getElem?_append_left hi] at ho
      rw [List.getElem?_append_left (by rw [I.len]; exact hi)] at hp
      exact (I.obj i o' p ho hp).ext x (fun o => k _ o) (fun o => k _ o)
    · have hi' : i = σ.length := by
        have := (List.getElem?_eq_some_iff.mp ho).1
        simp at this; lia
      subst hi'
      rw [List.getElem?_append_right (Nat.le_refl _)] at ho
      rw [List.getElem?_append_right (by rw [I.len]; exact Nat.le_refl _), I.len] at hp
      simp at ho hp
      subst ho; subst hp
      exact r
  · intro i j p p' hp hp' hij
    have cases2 : ∀ {i : Nat} {p : Addr × Addr}, (ρ ++ [q])[i]? = some p → (ρ[i]? = some p ∧ i < ρ.length) ∨ (p = q ∧ i = ρ.length) := fun {i p} e => by
      by_cases hi : i < ρ.length
      · rw [List.getElem?_append_left hi] at e; exact .inl ⟨e, hi⟩
      · have := (List.getElem?_eq_some_iff.mp e).1
        simp at this
        have hi' : i = ρ.length := by lia
        subst hi'
        rw [List.getElem?_append_right (Nat.le_refl _)] at e
        simp at e
        exact .inr ⟨e.symm, rfl⟩
    rcases cases2 hp with ⟨a, la⟩ | ⟨rfl, la⟩ <;> rcases cases2 hp' with ⟨b, lb⟩ | ⟨rfl, lb⟩
    · exact I.sep i j p p' a b hij
    · exact lv a
    · have := lv b; exact ⟨this.1.symm, this.2.2.1.symm, this.2.1.symm, this.2.2.2.symm⟩
    · lia
theorem Inv.upd (I : Inv c σ ρ h) {n : Nat} {q : Addr × Addr} {o : AO} (hq : ρ[n]? = some q) (k : ∀ b x, b ≠ q.1 → b ≠ q.2 → h.get? b = some x → h'.get? b = some x)
    (r : Ext h ρ h' ρ → ORep c h' ρ q o) : Inv c (σ.set n o) ρ h' ∧ Ext h ρ h' ρ := by
  have x : Ext h ρ h' ρ := ⟨⟨[], by simp, fun _ h => nomatch h⟩, fun b o t e => k b o (fun z => t (z ▸ Trk.fst hq)) (fun z => t (z ▸ Trk.snd hq)) e⟩
  refine ⟨⟨fun b o e => x.keep b o (I.untr e) (I.keep b o e), I.off, by simp [I.len], ?_, I.sep⟩, x⟩
  intro i o' p ho hp
  by_cases hi : n = i
  · subst hi
    rw [hq] at hp; cases hp
    have hl : n < σ.length := by rw [← I.len]; exact (List.getElem?_eq_some_iff.mp hq).1
    rw [List.getElem?_set_self hl] at ho
    cases ho
    exact r x
  · rw [List.getElem?_set_ne hi] at ho
    have s := I.sep n i q p hq hp hi
    exact (I.obj i o' p ho hp).ext x (fun o => k _ o s.1.symm s.2.2.1.symm) (fun o => k _ o s.2.1.symm s.2.2.2.symm)
end
end Mine
namespace Mine
open PySem PySem.W PyProof.Rows
noncomputable abbrev Kont (c : Ctx) (s : Shared) (ρ : Rho) (σ' : AH) (v : V) (Q : Value → Shared → Prop) : Prop :=
  ∀ u ρ' h' tk, Ext s.heap ρ h' ρ' → Inv c σ' ρ' h' → VRep h' ρ' v u → Q u { s with heap := h', toks := tk }
noncomputable abbrev KontB (c : Ctx) (s : Shared) (ρ : Rho) (σ' : AH) (b : Bool) (Q : Bool → Shared → Prop) : Prop :=
  ∀ ρ' h' tk, Ext s.heap ρ h' ρ' → Inv c σ' ρ' h' → Q b { s with heap := h', toks := tk }
noncomputable abbrev KontL (c : Ctx) (s : Shared) (ρ : Rho) (σ' : AH) (vs : List V) (Q : List Value → Shared → Prop) : Prop :=
  ∀ us ρ' h' tk, Ext s.heap ρ h' ρ' → Inv c σ' ρ' h' → VsRep h' ρ' vs us → Q us { s with heap := h', toks := tk }
theorem bits_le {a : Int} (h : a.natAbs < 2 ^ 64) : Builtin.Int.intBits a ≤ 64 := by
  unfold Builtin.Int.intBits
  split
  · lia
  · rename_i hz
    have : a.natAbs.log2 < 64 := (Nat.log2_lt (by intro hz'; apply hz; simpa using hz')).mpr h
    lia
theorem noPylong {a b : Int} (hb : b.natAbs < 2 ^ 64) : Builtin.divisionGoesByPylong a b = false := by
  unfold Builtin.divisionGoesByPylong
  have : (if (b == 0) = true then 0 else b.natAbs.log2 / 30 + 1) ≤ 4 := by
    split
    · lia
    · rename_i hz
      have hz' : b.natAbs ≠ 0 := by intro hz'; apply hz; simpa using hz'
      have : b.natAbs.log2 < 64 := (Nat.log2_lt hz').mpr hb
      lia
  dsimp only
  simp only [Bool.and_eq_false_imp, decide_eq_true_eq]
  intro q'
  lia
theorem sizeLine_is : sizeLine = 16777216 := by decide
theorem and_l {a b : Bool} (h : (a && b) = true) : a = true := ((Bool.and_eq_true _ _).mp h).1
theorem and_r {a b : Bool} (h : (a && b) = true) : b = true := ((Bool.and_eq_true _ _).mp h).2
theorem bitsOk_is {a : Int} (h : bitsOk a = true) : a.natAbs < 2 ^ 64 := of_decide_eq_true h
theorem le_line {n : Nat} (h : n ≤ lineL) : n ≤ 100000 := h
theorem lt1024 {a : Int} (h : a ≤ 1000) : a ≤ 1000000 := by lia
theorem lineS {a b : List Nat} (h : a.length + b.length ≤ lineL) : Str.length ⟨a.toArray⟩ + Str.length ⟨b.toArray⟩ ≤ sizeLine := by
  have := le_line h
  rw [sizeLine_is, show Str.length ⟨a.toArray⟩ = a.length from rfl, show Str.length ⟨b.toArray⟩ = b.length from rfl]; lia
theorem VsRep.one {ρ : Rho} {h : Heap} {v : V} {us : List Value} (r : VsRep h ρ [v] us) : ∃ u, us = [u] ∧ VRep h ρ v u := by
  obtain ⟨u, w, rfl, a, b⟩ := r.invC
  exact ⟨u, by rw [b.invN], a⟩
section
variable {c : Ctx} {A : Around} {E : Value → Shared → Prop} {s : Shared} {σ σ' : AH} {ρ : Rho}
theorem intBin_s {op : Operator} {a b z : Int} {t u : Tok} {Q : Value → Shared → Prop} (e : intBin op a b = some z) (h : ∀ t tk, Q (.int z t) { s with toks := tk }) :
    wpAny (model c.prog c.w) A (binaryOp op (.int a t) (.int b u)) Q E s := by
  cases op with
  | Add => obtain rfl := Option.some.inj e; exact add_int (h _ _)
  | Sub => obtain rfl := Option.some.inj e; exact sub_int (h _ _)
  | Mult =>
    revert e; refine iE fun q e => ?_
    obtain rfl := Option.some.inj e
    exact mul_int (h _ _) (IntMulOk.of_left (bits_le (bitsOk_is (and_l q))))
  | FloorDiv =>
    revert e; refine iE fun q e => ?_
    obtain rfl := Option.some.inj e
    exact floordiv_int (of_decide_eq_true (and_l (and_l q))) (h _ _) (.inl (noPylong (bitsOk_is (and_r q))))
  | Mod =>
    revert e; refine iE fun q e => ?_
    obtain rfl := Option.some.inj e
    exact mod_int' (of_decide_eq_true q) (h _ _)
  | Pow =>
    revert e; refine iE fun q e => ?_
    obtain rfl := Option.some.inj e
    exact pow_int_small (of_decide_eq_true (and_l (and_l q))) (lt1024 (of_decide_eq_true (and_r (and_l q)))) (bitsOk_is (and_r q)) (h _ _)
  | LShift =>
    revert e; refine iE fun q e => ?_
    obtain rfl := Option.some.inj e
    exact lshift_int_small (of_decide_eq_true (and_l (and_l q))) (lt1024 (of_decide_eq_true (and_r (and_l q)))) (bitsOk_is (and_r q)) (h _ _)
  | RShift =>
    revert e; refine iE fun q e => ?_
    obtain rfl := Option.some.inj e
    exact rshift_int (of_decide_eq_true q) (h _ _)
  | BitOr => obtain rfl := Option.some.inj e; exact or_int (h _ _)
  | BitXor => obtain rfl := Option.some.inj e; exact xor_int (h _ _)
  | BitAnd => obtain rfl := Option.some.inj e; exact and_int (h _ _)
  | _ => exact zE e
theorem intAug_s {op : Operator} {a b z : Int} {t u : Tok} {Q : Value → Shared → Prop} (e : intBin op a b = some z) (h : ∀ t tk, Q (.int z t) { s with toks := tk }) :
    wpAny (model c.prog c.w) A (inplaceOp op (.int a t) (.int b u)) Q E s := by
  cases op with
  | Add => obtain rfl := Option.some.inj e; exact iadd_int (h _ _)
  | Sub => obtain rfl := Option.some.inj e; exact isub_int (h _ _)
  | Mult =>
    revert e; refine iE fun q e => ?_
    obtain rfl := Option.some.inj e
    exact imul_int (h _ _) (IntMulOk.of_left (bits_le (bitsOk_is (and_l q))))
  | FloorDiv =>
    revert e; refine iE fun q e => ?_
    obtain rfl := Option.some.inj e
    exact ifloordiv_int (of_decide_eq_true (and_l (and_l q))) (h _ _) (.inl (noPylong (bitsOk_is (and_r q))))
  | Mod =>
    revert e; refine iE fun q e => ?_
    obtain rfl := Option.some.inj e
    exact imod_int (of_decide_eq_true q) (h _ _)
  | Pow =>
    revert e; refine iE fun q e => ?_
    obtain rfl := Option.some.inj e
    exact ipow_int_small (of_decide_eq_true (and_l (and_l q))) (lt1024 (of_decide_eq_true (and_r (and_l q)))) (bitsOk_is (and_r q)) (h _ _)
  | LShift =>
    revert e; refine iE fun q e => ?_
    obtain rfl := Option.some.inj e
    exact ilshift_int_small (of_decide_eq_true (and_l (and_l q))) (lt1024 (of_decide_eq_true (and_r (and_l q)))) (bitsOk_is (and_r q)) (h _ _)
  | RShift =>
    revert e; refine iE fun q e => ?_
    obtain rfl := Option.some.inj e
    exact irshift_int (of_decide_eq_true q) (h _ _)
  | BitOr => obtain rfl := Option.some.inj e; exact ior_int (h _ _)
  | BitXor => obtain rfl := Option.some.inj e; exact ixor_int (h _ _)
  | BitAnd => obtain rfl := Option.some.inj e; exact iand_int (h _ _)
  | _ => exact zE e
theorem str_app (a b : List Nat) : (⟨a.toArray⟩ : Str) ++ ⟨b.toArray⟩ = ⟨(a ++ b).toArray⟩ := by
  show Str.append _ _ = _
  simp [Str.append]
theorem str_len (a : List Nat) : Str.length ⟨a.toArray⟩ = a.length := by simp [Str.length]
theorem mulL_s {l : Addr} {items : List Value} {k : Nat} {x : Int} {u : Tok} {Q : Value → Shared → Prop} (hl : s.heap.get? l = some (lstObj items k))
    (hlo : -(2 ^ 63 : Int) ≤ x) (hhi : x < 2 ^ 63) (hsz : items.length * x.toNat ≤ 2 ^ 24)
    (h : Q (.ref s.heap.objs.size) { s with heap := s.heap.push (lstObj (List.replicate x.toNat items).flatten 0) }) :
    wpAny (model c.prog c.w) A (binaryOp .Mult (.ref l) (.int x u)) Q E s := by
  have e : List.foldl (fun x1 x2 => x1 ++ x2) #[] (List.replicate (if items.toArray.isEmpty = true then 0 else x.toNat) items.toArray) = (List.replicate x.toNat items).flatten.toArray := by
    have g : ∀ (n : Nat) (acc : Array Value), List.foldl (fun x1 x2 => x1 ++ x2) acc (List.replicate n items.toArray) = acc ++ (List.replicate n items).flatten.toArray := by
      intro n
      induction n with
      | zero => intro acc; simp
      | succ n ih => intro acc; rw [List.replicate_succ, List.replicate_succ, List.foldl_cons, ih, List.flatten_cons]; simp
    rw [g]
    split
    · rename_i q
      have : items = [] := by simpa using q
      subst this
      have : (List.replicate x.toNat ([] : List Value)).flatten = [] := by
        rw [List.flatten_eq_nil_iff]; intro y hy; exact List.eq_of_mem_replicate hy
      rw [this]; simp
    · simp
  have hsz' : items.toArray.size * x.toNat ≤ 2 ^ 24 := by rw [List.size_toArray]; exact hsz
  refine wpAny_binaryOp_repeat_ref (T := "list") (U := "int") (by decide) ⟨_, hl, rfl⟩ (fun s' => typeIs_int s' x u) noFill_list_mul F.fills_int_mul F.slot_int_rmul repeat_list F.slot_int_index.lookup
    (call_meets F.slot_int_rmul (typeIs_int s x u) F.entry_int_rmul (F.args_int_rmul_2 _ _) (int___rmul___int_list x u l items.toArray k)
      ⟨hl, rfl, ⟨_, hl, rfl⟩, call_meets F.slot_list_mul ⟨_, hl, rfl⟩ F.entry_list_mul (F.args_list_mul_2 _ _)
        (AutoListH.list___mul___list_int_3 l items.toArray k x u (by simp [Builtin.List.listFitsIndex]; lia) (by lia) (by simp [Builtin.List.listTooLong, sizeLine]; lia))
        ⟨hl, ?_⟩⟩)
  rw [e]
  exact h
theorem allocL {vs : List V} {us : List Value} {k : Nat} {h : Heap} (I : Inv c σ ρ h) (r : VsRep h ρ vs us) :
    Inv c (σ ++ [.list vs]) (ρ ++ [(h.objs.size, h.objs.size)]) (h.push (lstObj us k)) ∧ Ext h ρ (h.push (lstObj us k)) (ρ ++ [(h.objs.size, h.objs.size)]) ∧
      VRep (h.push (lstObj us k)) (ρ ++ [(h.objs.size, h.objs.size)]) (.obj σ.length) (.ref h.objs.size) := by
  have x : Ext h ρ (h.push (lstObj us k)) (ρ ++ [(h.objs.size, h.objs.size)]) := ⟨⟨[_], rfl, fun p hp => by rw [List.mem_singleton.mp hp]; exact ⟨get?_size h, get?_size h⟩⟩, fun b o _ e => Heap.get?_push_of_some _ e⟩
  obtain ⟨I', x'⟩ := I.alloc (h' := h.push (lstObj us k)) (q := (h.objs.size, h.objs.size)) (fun b o e => Heap.get?_push_of_some _ e) (get?_size h) (get?_size h)
    (.list (Heap.get?_push_size _ rfl) (r.ext x) rfl)
  refine ⟨I', x', ?_⟩
  have := VRep.obj (h := h.push (lstObj us k)) (ρ := ρ ++ [(h.objs.size, h.objs.size)]) (n := σ.length) (p := (h.objs.size, h.objs.size)) (by rw [← I.len]; simp)
  exact this
theorem listAt_is {σ : AH} {n : Nat} {vs : List V} (e : listAt σ n = some vs) : σ[n]? = some (.list vs) := by
  delta listAt at e
  revert e
  cases σ[n]? with
  | none => exact fun e => zE e
  | some o => cases o with
    | list ws => exact fun e => by rw [Option.some.inj e]
    | _ => exact fun e => zE e
theorem listAt_at {h : Heap} (I : Inv c σ ρ h) {n : Nat} {vs : List V} (e : listAt σ n = some vs) : ∃ p us k, ρ[n]? = some p ∧ h.get? p.1 = some (lstObj us k) ∧ VsRep h ρ vs us ∧ p.2 = p.1 := by
  have q := listAt_is e
  obtain ⟨p, hp, r⟩ := I.at q
  cases r with
  | list e r d => exact ⟨p, _, _, hp, e, r, d⟩
theorem repL_len (vs : List V) : ∀ n, (repL vs n).length = n * vs.length
  | 0 => (Nat.zero_mul _).symm
  | n + 1 => by rw [repL_succ, List.length_append, repL_len vs n, Nat.succ_mul, Nat.add_comm]
theorem binV_s {op : Operator} {x y v : V} {u1 u2 : Value} {Q : Value → Shared → Prop} (I : Inv c σ ρ s.heap) (r1 : VRep s.heap ρ x u1) (r2 : VRep s.heap ρ y u2)
    (e : binV op x y σ = some (v, σ')) (k : Kont c s ρ σ' v Q) : wpAny (model c.prog c.w) A (binaryOp op u1 u2) Q E s := by
  cases x with
  | int a =>
    cases y with
    | int b =>
      obtain ⟨_, rfl⟩ := intRef r1
      obtain ⟨_, rfl⟩ := intRef r2
      revert e; refine mE fun z e' q => ?_
      obtain ⟨rfl, rfl⟩ := Prod.mk.inj q
      exact intBin_s e' fun t tk => k _ _ _ _ (Ext.refl _ _) I (.int _ _)
    | _ => exact zE e
  | str a =>
    cases y with
    | str b =>
      cases op with
      | Add =>
        revert e; refine iE fun q e => ?_
        obtain ⟨_, rfl⟩ := strRef r1
        obtain ⟨_, rfl⟩ := strRef r2
        obtain ⟨rfl, rfl⟩ := Prod.mk.inj (Option.some.inj e)
        refine add_str (fun t' tk => ?_) (lineS q)
        rw [str_app]
        exact k _ _ _ _ (Ext.refl _ _) I (.str _ _)
      | _ => exact zE e
    | _ => exact zE e
  | obj n =>
    cases y with
    | int b =>
      cases op with
      | Mult =>
        delta binV at e
        dsimp only at e
        cases q : σ[n]? with
        | none => rw [q] at e; exact zE e
        | some o =>
          rw [q] at e
          cases o with
          | list vs =>
            revert e; refine iE fun hb e => ?_
            obtain ⟨rfl, rfl⟩ := Prod.mk.inj (Option.some.inj e)
            obtain ⟨p, us, kk, hp, ho, r, hd⟩ := listAt_at I (show listAt σ n = some vs by delta listAt; rw [q])
            obtain ⟨p', hp', rfl⟩ := objRef r1
            obtain rfl := Option.some.inj (hp.symm.trans hp')
            obtain ⟨_, rfl⟩ := intRef r2
            have hl := r.length
            have hm : us.length * b.toNat ≤ 100 * 1000 := Nat.mul_le_mul (by lia) (by lia)
            refine mulL_s ho (by lia) (by lia) (by lia) ?_
            obtain ⟨I', x', r'⟩ := allocL (k := 0) I (r.rep b.toNat)
            exact k _ _ _ _ x' I' r'
          | _ => exact zE e
      | _ => exact zE e
    | _ => exact zE e
  | _ => exact zE e
theorem augV_s {op : Operator} {x y v : V} {u1 u2 : Value} {Q : Value → Shared → Prop} (I : Inv c σ ρ s.heap) (r1 : VRep s.heap ρ x u1) (r2 : VRep s.heap ρ y u2)
    (e : augV op x y σ = some (v, σ')) (k : Kont c s ρ σ' v Q) : wpAny (model c.prog c.w) A (inplaceOp op u1 u2) Q E s := by
  cases x with
  | int a =>
    cases y with
    | int b =>
      obtain ⟨_, rfl⟩ := intRef r1
      obtain ⟨_, rfl⟩ := intRef r2
      revert e; refine mE fun z e' q => ?_
      obtain ⟨rfl, rfl⟩ := Prod.mk.inj q
      exact intAug_s e' fun t tk => k _ _ _ _ (Ext.refl _ _) I (.int _ _)
    | _ => exact zE e
  | str a =>
    cases y with
    | str b =>
      cases op with
      | Add =>
        revert e; refine iE fun q e => ?_
        obtain ⟨_, rfl⟩ := strRef r1
        obtain ⟨_, rfl⟩ := strRef r2
        obtain ⟨rfl, rfl⟩ := Prod.mk.inj (Option.some.inj e)
        refine iadd_str (fun t' tk => ?_) (lineS q)
        rw [str_app]
        exact k _ _ _ _ (Ext.refl _ _) I (.str _ _)
      | _ => exact zE e
    | _ => exact zE e
  | _ => exact zE e
theorem int_beq (a b : Int) : (a == b) = decide (a = b) := by rw [Bool.eq_iff_iff]; simp
theorem beq_str (a b : List Nat) : ((⟨a.toArray⟩ : Str) == ⟨b.toArray⟩) = decide (a = b) := by
  rw [Bool.eq_iff_iff, beq_iff_eq, decide_eq_true_eq]
  constructor
  · intro h
    have := congrArg (fun x : Str => x.cps.toList) h
    simpa using this
  · rintro rfl; rfl
theorem isNone_of {h : Heap} {x : V} {u : Value} (r : VRep h ρ x u) : (u == Value.none) = isNone x := by
  cases r <;> rfl
theorem intsAre_zip : ∀ (xs : List Int) (ts : List Tok), ts.length = xs.length → IntsAre ((xs.zip ts).map fun p => Value.int p.1 p.2) xs
  | [], _, _ => .nil
  | _ :: _, [], e => by simp at e
  | x :: xs, t :: ts, e => .cons x t (intsAre_zip xs ts (by simpa using e))
theorem lst_isList {h : Heap} {a : Addr} {us : List Value} {k : Nat} (e : h.get? a = some (lstObj us k)) : h.IsList a us.toArray := ⟨_, e, rfl, _, rfl⟩
theorem cmpInt_s {op : CmpOp} {a b : Int} {t u : Tok} {r : Bool} {Q : Value → Shared → Prop} (e : cmpInt op a b = some r) (h : Q (.bool r) s) : wpAny (model c.prog c.w) A (compareOp op (.int a t) (.int b u)) Q E s := by
  cases op with
  | Eq => obtain rfl := Option.some.inj e; exact eq_int (by rw [int_beq]; exact h)
  | NotEq => obtain rfl := Option.some.inj e; exact ne_int (by show Q (.bool (!(_ == _))) s; rw [int_beq]; exact h)
  | Lt => obtain rfl := Option.some.inj e; exact lt_int h
  | LtE => obtain rfl := Option.some.inj e; exact le_int h
  | Gt => obtain rfl := Option.some.inj e; exact gt_int h
  | GtE => obtain rfl := Option.some.inj e; exact ge_int h
  | _ => exact zE e
theorem cmpStr_s {op : CmpOp} {x y : List Nat} {t u : Tok} {b : Bool} {Q : Value → Shared → Prop} (e : cmpW op (.str x) (.str y) σ = some b) (k : Q (.bool b) s) : wpAny (model c.prog c.w) A (compareOp op (.str ⟨x.toArray⟩ t) (.str ⟨y.toArray⟩ u)) Q E s := by
  cases op with
  | Eq => obtain rfl := Option.some.inj e; exact eq_str (by rw [beq_str]; exact k)
  | NotEq => obtain rfl := Option.some.inj e; exact ne_str (by show Q (.bool (!(_ == _))) s; rw [beq_str]; exact k)
  | In =>
    cases x with
    | nil => exact zE e
    | cons a x =>
      cases x with
      | nil =>
        obtain rfl := Option.some.inj e
        refine in_str ?_
        rw [show (⟨[_].toArray⟩ : Str) = ⟨#[_]⟩ from rfl, StrLaws.found_one]
        simpa [List.contains_iff_mem, Bool.eq_iff_iff] using k
      | cons => exact zE e
  | _ => exact zE e
theorem cmpObj_s {op : CmpOp} {n m : Nat} {b : Bool} {u1 u2 : Value} {Q : Value → Shared → Prop} (hu : A.units + 64 < cLine) (I : Inv c σ ρ s.heap) (r1 : VRep s.heap ρ (.obj n) u1) (r2 : VRep s.heap ρ (.obj m) u2)
    (e : (match (listAt σ n).bind intsOf, (listAt σ m).bind intsOf with
      | some a, some b => (match op with
        | .Eq => some (decide (a = b))
        | .NotEq => some (!decide (a = b))
        | _ => Option.none)
      | _, _ => Option.none) = some b) (k : Q (.bool b) s) : wpAny (model c.prog c.w) A (compareOp op u1 u2) Q E s := by
  cases q1 : (listAt σ n).bind intsOf with
  | none => rw [q1] at e; exact zE e
  | some xs =>
  cases q2 : (listAt σ m).bind intsOf with
  | none => rw [q1, q2] at e; exact zE e
  | some ys =>
  rw [q1, q2] at e
  revert q1; refine bE fun vs l1 i1 => ?_
  revert q2; refine bE fun ws l2 i2 => ?_
  obtain ⟨p, us, kk, hp, ho, r, _⟩ := listAt_at I l1
  obtain ⟨p', us', kk', hp', ho', r', _⟩ := listAt_at I l2
  obtain ⟨_, a1, rfl⟩ := objRef r1
  obtain ⟨_, a2, rfl⟩ := objRef r2
  obtain rfl := Option.some.inj (hp.symm.trans a1)
  obtain rfl := Option.some.inj (hp'.symm.trans a2)
  obtain ⟨ts, lt, rfl⟩ := r.ints i1
  obtain ⟨ts', lt', rfl⟩ := r'.ints i2
  cases op with
  | Eq => obtain rfl := Option.some.inj e; exact eq_intsK (lst_isList ho) (intsAre_zip _ _ lt) (lst_isList ho') (intsAre_zip _ _ lt') hu k
  | NotEq => obtain rfl := Option.some.inj e; exact ne_intsK (lst_isList ho) (intsAre_zip _ _ lt) (lst_isList ho') (intsAre_zip _ _ lt') hu k
  | _ => exact zE e
theorem cmpV_s {op : CmpOp} {x y : V} {b : Bool} {u1 u2 : Value} {Q : Value → Shared → Prop} (hu : A.units + 64 < cLine) (I : Inv c σ ρ s.heap) (r1 : VRep s.heap ρ x u1) (r2 : VRep s.heap ρ y u2)
    (e : cmpV op x y σ = some b) (k : Q (.bool b) s) : wpAny (model c.prog c.w) A (compareOp op u1 u2) Q E s := by
  delta cmpV at e
  cases q : (isIs op && isNone y) with
  | true =>
    rw [q] at e
    obtain rfl := Option.some.inj e
    have q1 := and_l q
    cases op with
    | Is =>
      cases y with
      | none =>
        obtain rfl := noneRef r2
        exact is_none (by rw [isNone_of r1]; exact k)
      | _ => cases q
    | _ => cases q1
  | false =>
    rw [q] at e
    cases x with
    | int a => cases y with
      | int b =>
        obtain ⟨_, rfl⟩ := intRef r1
        obtain ⟨_, rfl⟩ := intRef r2
        exact cmpInt_s e k
      | _ => exact zE e
    | str a => cases y with
      | str b =>
        obtain ⟨_, rfl⟩ := strRef r1
        obtain ⟨_, rfl⟩ := strRef r2
        exact cmpStr_s (σ := σ) e k
      | _ => exact zE e
    | obj n => cases y with
      | obj m => exact cmpObj_s hu I r1 r2 e k
      | _ => exact zE e
    | _ => exact zE e
theorem truthV_s {x : V} {b : Bool} {u : Value} {Q : Bool → Shared → Prop} {h : Heap} (r : VRep h ρ x u) (e : truthV x = some b) (k : Q b s) : wpAny (model c.prog c.w) A (truthy u) Q E s := by
  cases x with
  | none => obtain rfl := noneRef r; obtain rfl := Option.some.inj e; exact wpAny_pure k
  | bool b => obtain rfl := boolRef r; obtain rfl := Option.some.inj e; exact wpAny_truthy_bool k
  | int i => obtain ⟨_, rfl⟩ := intRef r; obtain rfl := Option.some.inj e; exact truthy_int (by show Q (!(_ == _)) s; rw [int_beq]; exact k)
  | _ => exact zE e
end
end Mine
namespace Mine
open PySem PySem.W PyProof.Rows PySem.Calls
noncomputable def biVal : BI → Value
  | .len => .builtin "len"
  | .range => .type "range"
  | .str => .type "str"
  | .int => .type "int"
structure FnOf (c : Ctx) (a : Addr) (fn : Fn) (oc : Value) (od : Option Addr) (fd : FuncData) (osl : Array (Option Value)) (body : List Stmt) (as : List Str) : Prop where
  keep : keepIn c.K (.ref a) = true
  look : c.K.lookup a = some ⟨oc, od, .func fd, osl⟩
  glob : fd.globals = mainGlobals
  clo : fd.closure = []
  blt : fd.builtins = builtinsNs
  code : codeIn c.K fd.code fd.qualname = true
  bodyIs : fd.body = .stmts body
  term : cFn fd.params fd.scope body = some (as, fn.body)
  args : as.length = fn.n
  bind : ∀ us : List Value, us.length = fn.n → bindArgs fd ⟨us, []⟩ = pure (as.zip us)
noncomputable def FnAt (c : Ctx) (a : Addr) (fn : Fn) : Prop := ∃ oc od fd osl body as, FnOf c a fn oc od fd osl body as
theorem FnAt.keep {c : Ctx} {a : Addr} {fn : Fn} (h : FnAt c a fn) : keepIn c.K (.ref a) = true := by
  obtain ⟨_, _, _, _, _, _, h⟩ := h; exact h.keep
structure ClsAt (c : Ctx) (i : Nat) : Prop where
  keep : keepIn c.K (.ref (c.cls i)) = true
  makes : makesIn c.K (c.cls i) = true
  init : ∃ f, findIn c.K (.ref (c.cls i)) "__init__" = some (some (.ref f)) ∧ isFn c.K (.ref f) = true ∧ ∀ fn, tbl (initOf i) = some fn → FnAt c f fn
  get : plainGet c.K (c.cls i) (anm 0) = true
  dict : hasDictIn c.K (c.cls i) = true
  set : findIn c.K (.ref (c.cls i)) "__setattr__" = some (some (.builtin "object.__setattr__"))
  over : plainOver c.K (c.cls i) = true
  no : ∀ a, a < 28 → findIn c.K (.ref (c.cls i)) (anm a) = some none
noncomputable def GOk (c : Ctx) (x : Str) : GK → Prop
  | .int i => ∃ t, nsIn c.K mainGlobals x = some (some (.int i t))
  | .str y => ∃ t, nsIn c.K mainGlobals x = some (some (.str ⟨y.toArray⟩ t))
  | .tup xs => ∃ a k ts, nsIn c.K mainGlobals x = some (some (.ref a)) ∧ c.K.lookup a = some (tupObj ((xs.zip ts).map fun p => Value.int p.1 p.2) k) ∧ ts.length = xs.length ∧ xs.length ≤ 1000
  | .fn i => ∃ a, nsIn c.K mainGlobals x = some (some (.ref a)) ∧ ∀ fn, tbl i = some fn → FnAt c a fn
  | .cls i => i < 3 ∧ nsIn c.K mainGlobals x = some (some (.ref (c.cls i)))
  | .bi b => nsIn c.K mainGlobals x = some none ∧ bootBuiltins x = some (biVal b) ∧ x ≠ "__name__"
structure World (c : Ctx) : Prop where
  glb : ∀ x g, glb.lookup x = some g → GOk c x g
  cls : ∀ i, i < 3 → ClsAt c i
  inj : ∀ x a, aidx.lookup x = some a → a < 28 ∧ anm a = x
structure Frm (c : Ctx) (Γ : CE) (env : LE) (pe : Env) (ρ : Rho) (h : Heap) : Prop where
  kind : pe.scope.kind = .function
  names : pe.scope.names = Γ.kinds
  glob : pe.globals = mainGlobals
  blt : pe.builtins = builtinsNs
  off : ¬ Trk ρ pe.locals
  ns : ∃ m, h.Ns pe.locals m ∧ ∀ x k v, Γ.vars.lookup x = some k → Γ.kinds.lookup x = some .local → env[k]?.join = some v → ∃ u, m x = some u ∧ VRep h ρ v u
  cell : ∀ x k, Γ.vars.lookup x = some k → (Γ.kinds.lookup x = some .cell ∨ Γ.kinds.lookup x = some .free) → ∃ a w, pe.cells.lookup x = some a ∧ ¬ Trk ρ a ∧ a ≠ pe.locals ∧ h.IsCell a w ∧
    ∀ v, env[k]?.join = some v → ∃ u, w = some u ∧ VRep h ρ v u
section
variable {c : Ctx} {Γ : CE} {env : LE} {pe : Env} {ρ ρ' : Rho} {h h' : Heap}
theorem Frm.kindOf (F : Frm c Γ env pe ρ h) (x : Str) : pe.kindOf x = Γ.kinds.lookup x := by unfold Env.kindOf; rw [F.names]
theorem Frm.ext (F : Frm c Γ env pe ρ h) (x : Ext h ρ h' ρ') : Frm c Γ env pe ρ' h' := by
  obtain ⟨m, hm, hv⟩ := F.ns
  have hm' := hm
  obtain ⟨oL, es, ep, hL, hr⟩ := hm'
  refine ⟨F.kind, F.names, F.glob, F.blt, x.off hL F.off, ⟨m, hm.at' fun o e => x.keep _ o F.off e, fun y k v a b e => ?_⟩, fun y k a b => ?_⟩
  · obtain ⟨u, q, r⟩ := hv y k v a b e
    exact ⟨u, q, r.ext x⟩
  · obtain ⟨a', w, q1, q2, q3, q4, q5⟩ := F.cell y k a b
    obtain ⟨o, ho, hd⟩ := q4
    exact ⟨a', w, q1, x.off ho q2, q3, ⟨o, x.keep _ _ q2 ho, hd⟩, fun v e => let ⟨u, z, r⟩ := q5 v e; ⟨u, z, r.ext x⟩⟩
end
structure Room (A : Around) (d : Nat) : Prop where
  hand : A.handled = none
  depth : A.depth + 3 * d + 3 < recursionLimit
  units : A.units + 20 * d + 120 < cLine
structure Room2 (A : Around) (d : Nat) : Prop where
  hand : A.handled = none
  depth : A.depth + 3 * d + 1 < recursionLimit
  units : A.units + 20 * d + 110 < cLine
noncomputable def Sound (c : Ctx) (F : Nat → List V → AH → Option (V × AH)) (d : Nat) : Prop :=
  ∀ (f : Nat) (vs : List V) (σ : AH) (v : V) (σ' : AH), F f vs σ = some (v, σ') → ∀ fn, tbl f = some fn → ∀ (a : Addr), FnAt c a fn → ∀ (A : Around) (s : Shared) (ρ : Rho) (us : List Value),
    Room2 A d → Inv c σ ρ s.heap → VsRep s.heap ρ vs us → ∀ R : Result → Shared → Prop, Kont c s ρ σ' v (fun u s' => R (.ok (.ret u)) s') → codeAny (model c.prog c.w) A (.call (.ref a) ⟨us, []⟩) R s
section
variable {c : Ctx} {Γ : CE} {env : LE} {pe : Env} {A : Around} {E : Value → Shared → Prop} {s : Shared} {σ σ' : AH} {ρ : Rho}
theorem cVar_is {id : Str} {k : Nat} (h : cVar Γ id = some k) : Γ.vars.lookup id = some k ∧ (Γ.kinds.lookup id = some .local ∨ Γ.kinds.lookup id = some .cell ∨ Γ.kinds.lookup id = some .free) := by
  delta cVar at h
  revert h
  cases Γ.kinds.lookup id with
  | none => exact fun h => zE h
  | some q => cases q with
    | «local» => exact fun h => ⟨h, .inl rfl⟩
    | cell => exact fun h => ⟨h, .inr (.inl rfl)⟩
    | free => exact fun h => ⟨h, .inr (.inr rfl)⟩
    | _ => exact fun h => zE h
theorem load_q {id : Str} {k : Nat} {v : V} {Q : Value → Shared → Prop} (F : Frm c Γ env pe ρ s.heap) (hv : cVar Γ id = some k) (e : env[k]?.join = some v)
    (h2 : (id == ("__classdict__" : Str)) = false) (kk : ∀ u, VRep s.heap ρ v u → Q u s) : wpAny (model c.prog c.w) A (loadName pe id) Q E s := by
  obtain ⟨hv, q | q | q⟩ := cVar_is hv
  · obtain ⟨m, hm, hg⟩ := F.ns
    obtain ⟨u, hu, r⟩ := hg id k v hv q e
    exact wpAny_loadName_local F.kind ((F.kindOf id).trans q) hm hu (kk u r)
  · obtain ⟨a, w, q1, q2, q3, q4, q5⟩ := F.cell id k hv (.inl q)
    obtain ⟨u, rfl, r⟩ := q5 v e
    exact wpAny_loadName_cell F.kind ((F.kindOf id).trans q) q1 q4 (kk u r)
  · obtain ⟨a, w, q1, q2, q3, q4, q5⟩ := F.cell id k hv (.inr q)
    obtain ⟨u, rfl, r⟩ := q5 v e
    exact wpAny_loadName_free F.kind ((F.kindOf id).trans q) q1 q4 (kk u r) h2
theorem var_s {id : Str} {p : Pos} {k : Nat} {v : V} {Q : Value → Shared → Prop} (I : Inv c σ ρ s.heap) (F : Frm c Γ env pe ρ s.heap) (hv : cVar Γ id = some k) (e : env[k]?.join = some v)
    (h1 : (id == ("__debug__" : Str)) = false) (h2 : (id == ("__classdict__" : Str)) = false) (kk : Kont c s ρ σ v Q) : wpAny (model c.prog c.w) A (eval (.Name id p) pe) Q E s :=
  wpAny_Name (load_q F hv e h2 fun u r => kk u ρ s.heap s.toks (Ext.refl _ _) I r) h1
theorem glbK {id : Str} {g : GK} (hv : cGlb glb Γ id = some g) : Γ.kinds.lookup id = some .globalImplicit ∧ glb.lookup id = some g := by
  delta cGlb at hv
  revert hv
  cases Γ.kinds.lookup id with
  | none => exact fun h => zE h
  | some q => cases q with
    | globalImplicit => exact fun h => ⟨rfl, h⟩
    | _ => exact fun h => zE h
theorem glob_s {id : Str} {p : Pos} {u : Value} {Q : Value → Shared → Prop} (I : Inv c σ ρ s.heap) (F : Frm c Γ env pe ρ s.heap) (hk : Γ.kinds.lookup id = some .globalImplicit) (e : nsIn c.K mainGlobals id = some (some u))
    (h1 : (id == ("__debug__" : Str)) = false) (k : Q u s) : wpAny (model c.prog c.w) A (eval (.Name id p) pe) Q E s :=
  Name_function_global F.kind ((F.kindOf id).trans hk) (loadGlobal_global (mg := c.mg) (by rw [F.glob]; exact I.top.g) (mg_of c.inK c.top.g e) k) h1
theorem blt_s {id : Str} {p : Pos} {u : Value} {Q : Value → Shared → Prop} (I : Inv c σ ρ s.heap) (F : Frm c Γ env pe ρ s.heap) (hk : Γ.kinds.lookup id = some .globalImplicit) (e : nsIn c.K mainGlobals id = some none)
    (hb : bootBuiltins id = some u) (hn : id ≠ "__name__") (h1 : (id == ("__debug__" : Str)) = false) (k : Q u s) : wpAny (model c.prog c.w) A (eval (.Name id p) pe) Q E s :=
  Name_function_global F.kind ((F.kindOf id).trans hk) (loadGlobal_builtin (mg := c.mg) (mb := c.mb) (by rw [F.glob]; exact I.top.g) (mg_none_of c.inK c.top.g e) (by rw [F.blt]; exact I.top.b) ((c.top.builtins id hn).trans hb) k) h1
theorem subs_any (slice : Expr) (o i : Value) : ∃ ops, subscripted slice false o i = operate ops (getItem o i) := by
  cases slice with
  | Slice lo hi st p => cases st <;> exact ⟨_, rfl⟩
  | _ => exact ⟨_, rfl⟩
theorem tailG {value slice : Expr} {o i : Value} {T id : String} {Q : Value → Shared → Prop} (hT : s.TypeIs o T) (hl : typeLookup (.type T) "__getitem__" = pure (some (.builtin id)))
    (hg : wpAny (model c.prog c.w) A (getItem o i) Q E s) : wpAny (model c.prog c.w) A (subscriptTail value slice o i) Q E s :=
  let ⟨_, e⟩ := subs_any slice o i
  tail_any hT hl hg e
theorem idx_of {n : Nat} {k : Int} {len : Nat} (h : 0 ≤ k) (e : n = k.toNat) (hl : n < len) : seqIndex? k len = some n := by
  unfold seqIndex?
  subst e
  have : ¬ k < 0 := by lia
  simp only [this, if_false]
  simp
  lia
theorem subV_s {o i v : V} {u1 u2 : Value} {Q : Value → Shared → Prop} (I : Inv c σ ρ s.heap) (r1 : VRep s.heap ρ o u1) (r2 : VRep s.heap ρ i u2) (e : subV o i σ = some v)
    (k : Kont c s ρ σ v Q) : wpAny (model c.prog c.w) A (getItem u1 u2) Q E s ∧ ∃ T id, s.TypeIs u1 T ∧ typeLookup (.type T) "__getitem__" = pure (some (.builtin id)) := by
  cases i with
  | int kk =>
    revert e; refine iE fun q e => ?_
    obtain ⟨_, rfl⟩ := intRef r2
    cases o with
    | obj n =>
      revert e; refine bE fun vs e1 e2 => ?_
      obtain ⟨p, us, kn, hp, ho, r, _⟩ := listAt_at I e1
      obtain ⟨_, a1, rfl⟩ := objRef r1
      obtain rfl := Option.some.inj (hp.symm.trans a1)
      obtain ⟨b, hb, rb⟩ := r.get e2
      have hl := lst_isList ho
      exact ⟨wpAny_getItem_list hl q.1 (by lia) (by simpa using hb) (k b ρ s.heap s.toks (Ext.refl _ _) I rb), _, _, hl.typeIs, slot_list_getitem.lookup⟩
    | tup vs =>
      obtain ⟨_, _, _, rfl, ho, hn, r⟩ := tupRef r1
      obtain ⟨b, hb, rb⟩ := r.get e
      have hl : IsTup s.heap _ _ := ⟨_, ho, rfl, _, rfl⟩
      have hlt := (List.getElem?_eq_some_iff.mp hb).1
      exact ⟨PyProof.Rows.getItem_tuple hl (by lia) (by lia) (by rw [List.size_toArray]; exact idx_of q.1 rfl hlt) (by simpa using hb) (k b ρ s.heap s.toks (Ext.refl _ _) I rb), _, _, hl.typeIs, slot_tuple_getitem.lookup⟩
    | str x =>
      obtain ⟨_, rfl⟩ := strRef r1
      revert e; refine mE fun cc e1 hrf => ?_; subst hrf
      have hlt := (List.getElem?_eq_some_iff.mp e1).1
      refine ⟨getItem_str (c := cc) (by simp; lia) ?_ (k _ ρ s.heap (s.toks + 1) (Ext.refl _ _) I (.str [cc] _)), _, _, typeIs_str _ _ _, slot_str_getitem.lookup⟩
      rw [str_len, idx_of q.1 rfl hlt]
      simpa using e1
    | _ => exact zE e
  | _ => exact zE e
end
end Mine
namespace Mine
open PySem PySem.W PyProof.Rows PySem.Calls
theorem join_cps (sep : Str) : ∀ ps : List Str, (Str.join sep ps).cps.toList = joinL sep.cps.toList (ps.map fun p => p.cps.toList)
  | [] => rfl
  | [x] => rfl
  | x :: y :: r => by
    have ih := join_cps sep (y :: r)
    simp only [List.map_cons] at ih ⊢
    rw [joinL_cons2, ← ih]
    show ((x ++ sep) ++ Str.join sep (y :: r) : Str).cps.toList = _
    show (Str.append (Str.append x sep) _).cps.toList = _
    simp [Str.append]
theorem splitL_ne (c : Nat) : ∀ x, splitL c x ≠ []
  | [] => List.cons_ne_nil _ _
  | d :: r => by
    rw [splitL_cons]
    by_cases h : d = c
    · rw [if_pos h]; exact List.cons_ne_nil _ _
    · rw [if_neg h]
      cases splitL c r <;> exact List.cons_ne_nil _ _
theorem splitL_app (c : Nat) : ∀ (x r : List Nat), c ∉ x → splitL c (x ++ c :: r) = x :: splitL c r
  | [], r, _ => if_pos rfl
  | d :: x, r, h => by
    have hd : d ≠ c := fun e => h (e ▸ List.mem_cons_self ..)
    have hx : c ∉ x := fun e => h (List.mem_cons_of_mem _ e)
    rw [List.cons_append, splitL_cons, if_neg hd, splitL_app c x r hx]
theorem splitL_free (c : Nat) : ∀ (x : List Nat), c ∉ x → splitL c x = [x]
  | [], _ => rfl
  | d :: x, h => by
    have hd : d ≠ c := fun e => h (e ▸ List.mem_cons_self ..)
    have hx : c ∉ x := fun e => h (List.mem_cons_of_mem _ e)
    rw [splitL_cons, if_neg hd, splitL_free c x hx]
theorem split_uniq (c : Nat) : ∀ ps : List (List Nat), ps ≠ [] → (∀ p ∈ ps, c ∉ p) → splitL c (joinL [c] ps) = ps
  | [], h, _ => absurd rfl h
  | [x], _, h => splitL_free c x (h x (List.mem_cons_self ..))
  | x :: y :: r, _, h => by
    rw [joinL_cons2, List.append_assoc, List.singleton_append, splitL_app c x _ (h x (List.mem_cons_self ..)), split_uniq c (y :: r) (by simp) fun p hp => h p (List.mem_cons_of_mem _ hp)]
theorem split_is (x : Str) (c : Nat) : (Txt.split x ⟨#[c]⟩).map (fun p => p.cps.toList) = splitL c x.cps.toList := by
  have h1 := StrLaws.join_split x ⟨#[c]⟩
  have h2 : (Str.join ⟨#[c]⟩ (Txt.split x ⟨#[c]⟩)).cps.toList = joinL [c] _ := join_cps ⟨#[c]⟩ (Txt.split x ⟨#[c]⟩)
  rw [h1] at h2
  rw [h2]
  refine (split_uniq c _ ?_ ?_).symm
  · have := PyProof.Rows.split_pos x ⟨#[c]⟩
    intro e
    have h0 := List.map_eq_nil_iff.mp e
    rw [h0] at this
    simp at this
  · intro p hp
    obtain ⟨q, hq, rfl⟩ := List.mem_map.mp hp
    exact StrLaws.split_free x c q hq
theorem findL_ge (c : Nat) : ∀ (x : List Nat) (i : Nat), findL c x i = -1 ∧ c ∉ x ∨ ∃ k : Nat, findL c x i = ((i + k : Nat) : Int) ∧ x[k]? = some c ∧ c ∉ x.take k
  | [], i => .inl ⟨rfl, by simp⟩
  | d :: r, i => by
    rw [findL_cons]
    split
    · rename_i h; exact .inr ⟨0, by simp, by simp [h], by simp⟩
    · rename_i h
      rcases findL_ge c r (i + 1) with ⟨a, b⟩ | ⟨k, a, b, e⟩
      · exact .inl ⟨a, by simp only [List.mem_cons, not_or]; exact ⟨fun e => h e.symm, b⟩⟩
      · exact .inr ⟨k + 1, by rw [a]; congr 1; lia, by simpa using b, by simp only [List.take_succ_cons, List.mem_cons, not_or]; exact ⟨fun e => h e.symm, e⟩⟩
theorem at_one (x : List Nat) (c i : Nat) : StrLaws.At ⟨x.toArray⟩ ⟨#[c]⟩ x.length i ↔ x[i]? = some c := by
  unfold StrLaws.At
  rw [StrLaws.subAt_eq]
  simp only [Str.length, List.size_toArray, beq_iff_eq]
  constructor
  · rintro ⟨h1, h2⟩
    simp at h1 h2
    rw [List.getElem?_eq_getElem (by lia)]
    have h3 : (x.drop i)[0]? = some c := by
      cases q : x.drop i with
      | nil => rw [q] at h2; simp at h2
      | cons a r => rw [q] at h2; simp at h2; simp [h2]
    rw [List.getElem?_drop] at h3
    rw [List.getElem?_eq_getElem (by lia)] at h3
    simpa using h3
  · intro h
    have hl := (List.getElem?_eq_some_iff.mp h).1
    refine ⟨by simp; lia, ?_⟩
    have : x.drop i = x[i] :: x.drop (i + 1) := by simp
    simp only [List.getElem?_eq_getElem hl, Option.some.injEq] at h
    simp [this, h]
theorem find_is (x : List Nat) (c : Nat) : Txt.find ⟨x.toArray⟩ ⟨#[c]⟩ = findL c x 0 := by
  have hl : Str.length ⟨x.toArray⟩ = x.length := str_len x
  have key : ∀ {k : Nat}, c ∉ x.take k → ∀ j, j < k → x[j]? ≠ some c := fun {k} h j hj q => by
    apply h
    have := List.mem_of_getElem? (l := x.take k) (i := j) (a := c) (by rw [List.getElem?_take, if_pos hj]; exact q)
    exact this
  rcases PyProof.Rows.find_whole ⟨x.toArray⟩ ⟨#[c]⟩ with ⟨a, b⟩ | ⟨i, a, b, d⟩ <;> rcases findL_ge c x 0 with ⟨a', b'⟩ | ⟨k, a', b', e'⟩
  · rw [a, a']
  · exact absurd ((at_one x c k).mpr b') (hl ▸ b k)
  · rw [hl, at_one] at b
    exact absurd (List.mem_of_getElem? b) b'
  · rw [hl, at_one] at b
    rw [a, a']
    congr 1
    rcases Nat.lt_trichotomy i k with q | q | q
    · exact absurd b (key e' i q)
    · lia
    · have := d k q
      rw [hl, at_one] at this
      exact absurd b' this
theorem lower_is : ∀ c, c < 128 → Txt.lower ⟨#[c]⟩ = ⟨#[lowL c]⟩ := by decide +kernel
theorem upper_is : ∀ c, c < 128 → Txt.upper ⟨#[c]⟩ = ⟨#[uppL c]⟩ := by decide +kernel
theorem digit_is : ∀ c, c < 58 → 48 ≤ c → PySem.intText? ⟨#[c]⟩ = some ((c : Int) - 48) := by decide +kernel
theorem join_is (sep : Str) (ps : List Str) : Txt.join sep ps = ⟨(joinL sep.cps.toList (ps.map fun p => p.cps.toList)).toArray⟩ := by
  rw [show Txt.join sep ps = Str.join sep ps from StrLaws.glued_eq_join sep ps, ← join_cps]
section
variable {c : Ctx} {Γ : CE} {env : LE} {pe : Env} {A : Around} {E : Value → Shared → Prop} {s : Shared} {σ σ' : AH} {ρ : Rho}
theorem Kont.same {v : V} {Q : Value → Shared → Prop} (k : Kont c s ρ σ v Q) (I : Inv c σ ρ s.heap) {u : Value} (r : VRep s.heap ρ v u) (tk : Nat) : Q u { s with toks := tk } :=
  k u ρ s.heap tk (Ext.refl _ _) I r
theorem split_s {x : Str} {t u : Tok} {d : Nat} {Q : Value → Shared → Prop} (hsz : x.length + 2 ≤ sizeLine)
    (h : ∀ l k, l.map (·.1) = Txt.split x ⟨#[d]⟩ → Q (.ref s.heap.objs.size) { s with heap := s.heap.push (lstObj (strValues l) 0), toks := k }) :
    wpAny (model c.prog c.w) A (call (.builtin "str.split") [.str x t, .str ⟨#[d]⟩ u]) Q E s := by
  have hy : (Str.length ⟨#[d]⟩ == 0) = false := rfl
  generalize (⟨#[d]⟩ : Str) = y at h hy ⊢
  open Builtin Builtin.Str in
  have hn : (partsBetween x (occurrences x y 0 x.length (x.length + 1)) y.length).length ≤ sizeLine := by
    have e1 := StrLaws.occ_length_le x y 0 x.length (x.length + 1)
    rw [length_partsBetween]; lia
  open Builtin Builtin.Str in
  cases h1 : (decide (x.length < y.length) || decide (strKind x < strKind y))
  · cases hf : (occurrences x y 0 x.length (x.length + 1)).isEmpty
    · refine call_meets F.slot_str_split (typeIs_str _ _ _) F.entry_str_split (F.args_str_split_2 _ _) (meets_str_split_sep x y t u h1 hy hf (by lia) hn) ?_
      show wants Q E _ { s with toks := _, heap := s.heap.push { cls := .type "list", data := .seq (strsFrom s.toks (partsBetween x (occurrences x y 0 x.length (x.length + 1)) y.length)).toArray } }
      rw [strsFrom_eq]
      exact h (numbered s.toks _) _ ((numbered_texts _ _).trans ((if_neg (ne_true_of_eq_false h1)).trans (if_neg (ne_true_of_eq_false hf))).symm)
    · exact call_meets F.slot_str_split (typeIs_str _ _ _) F.entry_str_split (F.args_str_split_2 _ _) (meets_str_split_not_found x y t u h1 hy hf)
        (h [(x, t)] s.toks ((if_neg (ne_true_of_eq_false h1)).trans (if_pos hf)).symm)
  · exact call_meets F.slot_str_split (typeIs_str _ _ _) F.entry_str_split (F.args_str_split_2 _ _) (meets_str_split_cannot_occur x y t u h1)
      (h [(x, t)] s.toks (if_pos h1).symm)
theorem strValues_rep {h : Heap} {ρ : Rho} : ∀ l : List (Str × Tok), VsRep h ρ (l.map fun p => V.str p.1.cps.toList) (strValues l)
  | [] => .nil
  | (x, t) :: r => .cons (VRep.str x.cps.toList t) (strValues_rep r)
theorem frEmpty (I : Inv c σ ρ s.heap) : Fr {} mainGlobals s.heap c.mg := ⟨I.top.g, fun b o e => by simp [Heap.get?] at e, Nat.zero_le _⟩
theorem rangeVal {h h' : Heap} {a : Addr} {x y z : Int} {t u v : Tok} (I : Inv c σ ρ h) (hn : h.get? a = none) (e : IsRange h' a x y z t u v) : VRep h' ρ (.range x y z) (.ref a) := .range e (I.fresh hn)
theorem str_of_s {i : Int} {t : Tok} {Q : Value → Shared → Prop} (q : 0 ≤ i ∧ i < 1000000) (k : ∀ u, VRep s.heap ρ (.str (intText i)) u → ∀ tk, Q u { s with toks := tk }) : wpAny (model c.prog c.w) A (call (biVal .str) [.int i t]) Q E s := by
  refine P.str_of_int ?_ ?_
  · by_cases hz : i.natAbs = 0
    · rw [hz]; decide
    · have : i.natAbs.log2 < 64 := (Nat.log2_lt hz).mpr (by lia)
      lia
  · exact k _ (VRep.str (h := s.heap) (ρ := ρ) (intText i) s.toks) _
theorem biV_s {b : BI} {vs : List V} {us : List Value} {v : V} {Q : Value → Shared → Prop} (I : Inv c σ ρ s.heap) (r : VsRep s.heap ρ vs us) (e : biV b vs σ = some (v, σ')) (k : Kont c s ρ σ' v Q) :
    wpAny (model c.prog c.w) A (call (biVal b) us) Q E s := by
  cases b with
  | len =>
    revert e; refine bE fun w hw e => ?_
    obtain rfl := one_is hw
    obtain ⟨u1, rfl, r1⟩ := r.one
    cases w with
    | obj n =>
      revert e; refine bE fun xs e1 e2 => ?_
      revert e2; refine iE fun hl e2 => ?_
      obtain ⟨rfl, rfl⟩ := Prod.mk.inj (Option.some.inj e2)
      obtain ⟨p, us, kn, hp, ho, rl, _⟩ := listAt_at I e1
      obtain ⟨_, a1, rfl⟩ := objRef r1
      obtain rfl := Option.some.inj (hp.symm.trans a1)
      have hlen := rl.length
      have hl := le_line hl
      refine call_len_list (lst_isList ho) (by rw [List.size_toArray]; lia) ?_
      rw [List.size_toArray, ← hlen]
      exact k.same I (.int _ _) _
    | str x =>
      revert e; refine iE fun hl e2 => ?_
      obtain ⟨rfl, rfl⟩ := Prod.mk.inj (Option.some.inj e2)
      obtain ⟨_, rfl⟩ := strRef r1
      have hl := le_line hl
      refine PyProof.Rows.len_str (by rw [str_len]; lia) ?_
      rw [str_len]
      exact k.same I (.int _ _) _
    | _ => exact zE e
  | range =>
    revert e; refine bE fun is hi e => ?_
    obtain ⟨ts, lt, rfl⟩ := r.ints hi
    cases is with
    | nil => exact zE e
    | cons a is =>
    cases ts with
    | nil => cases lt
    | cons ta ts =>
    cases is with
    | nil =>
      cases ts with
      | cons => cases lt
      | nil =>
      revert e; refine iE fun _ e => ?_
      obtain ⟨rfl, rfl⟩ := Prod.mk.inj (Option.some.inj e)
      exact range1_rows (frEmpty I) News.nil fun h' tk t1 u1 v1 hr _ _ hk => k _ _ _ _ (Ext.all hk) (I.all hk) (rangeVal I (get?_size _) hr)
    | cons n is =>
    cases ts with
    | nil => cases lt
    | cons tn ts =>
    cases is with
    | nil =>
      cases ts with
      | cons => cases lt
      | nil =>
      revert e; refine iE fun _ e => ?_
      obtain ⟨rfl, rfl⟩ := Prod.mk.inj (Option.some.inj e)
      exact range2_rows (frEmpty I) News.nil fun h' tk t1 u1 v1 hr _ _ hk => k _ _ _ _ (Ext.all hk) (I.all hk) (rangeVal I (get?_size _) hr)
    | cons d is =>
    cases ts with
    | nil => cases lt
    | cons td ts =>
      revert e; refine iE fun q e => ?_
      obtain rfl := List.isEmpty_iff.mp (and_r q)
      cases ts with
      | cons => cases lt
      | nil =>
      obtain ⟨rfl, rfl⟩ := Prod.mk.inj (Option.some.inj e)
      have hd := of_decide_eq_true (and_r (and_l q))
      exact range3_rows (frEmpty I) News.nil (by lia) (fun h' tk t1 u1 v1 hr _ _ hk => k _ _ _ _ (Ext.all hk) (I.all hk) (rangeVal I (get?_size _) hr)) (.inl (noPylong (by lia)))
  | str =>
    revert e; refine bE fun w hw e => ?_
    obtain rfl := one_is hw
    obtain ⟨u1, rfl, r1⟩ := r.one
    cases w with
    | int i =>
      revert e; refine iE fun q e => ?_
      obtain ⟨rfl, rfl⟩ := Prod.mk.inj (Option.some.inj e)
      obtain ⟨_, rfl⟩ := intRef r1
      exact str_of_s q fun u r tk => k.same I r tk
    | _ => exact zE e
  | int =>
    revert e; refine bE fun w hw e => ?_
    obtain rfl := one_is hw
    obtain ⟨u1, rfl, r1⟩ := r.one
    cases w with
    | bool b =>
      obtain ⟨rfl, rfl⟩ := Prod.mk.inj (Option.some.inj e)
      obtain rfl := boolRef r1
      exact call_int_bool (k.same I (.int _ _) _)
    | str x =>
      revert e; refine bE fun d hd e => ?_
      obtain rfl := one_is hd
      revert e; refine iE fun q e => ?_
      obtain ⟨rfl, rfl⟩ := Prod.mk.inj (Option.some.inj e)
      obtain ⟨_, rfl⟩ := strRef r1
      exact W.KIN.call_text (digit_is d (by lia) q.1) (by show 1 ≤ 640; decide) (k.same I (.int _ _) _)
    | _ => exact zE e
end
end Mine
namespace Mine
open PySem PySem.W PyProof.Rows PySem.Calls
noncomputable def meName : ME → Str
  | .append => "append" | .extend => "extend" | .find => "find" | .split => "split" | .join => "join" | .lower => "lower" | .upper => "upper"
noncomputable def meId : ME → String
  | .append => "list.append" | .extend => "list.extend" | .find => "str.find" | .split => "str.split" | .join => "str.join" | .lower => "str.lower" | .upper => "str.upper"
theorem meNames_is {x : Str} {m : ME} (e : meNames.lookup x = some m) : x = meName m := by
  have gen : ∀ p ∈ meNames, p.1 = meName p.2 := by decide +kernel
  exact gen _ (mem_of_lookup e)
section
variable {c : Ctx} {Γ : CE} {env : LE} {pe : Env} {A : Around} {E : Value → Shared → Prop} {s : Shared} {σ σ' : AH} {ρ : Rho}
theorem methGet_s {m : ME} {o v : V} {vs : List V} {u : Value} {pl : Sem Bool} {Q : Value × List Value → Shared → Prop} {σ₁ : AH} (I : Inv c σ ρ s.heap) (r : VRep s.heap ρ o u)
    (e : methV m o vs σ₁ = some (v, σ')) (hlist : ∀ n, o = .obj n → ∃ ws, listAt σ n = some ws) (k : Q (.builtin (meId m), [u]) s) : wpAny (model c.prog c.w) A (getMethod u (meName m) pl) Q E s := by
  have lst : ∀ n, o = .obj n → ∃ a us kn, u = .ref a ∧ s.heap.get? a = some (lstObj us kn) := fun n e => by
    subst e
    obtain ⟨ws, hw⟩ := hlist n rfl
    obtain ⟨p, us, kn, hp, ho, _, _⟩ := listAt_at I hw
    obtain ⟨_, a1, rfl⟩ := objRef r
    obtain rfl := Option.some.inj (hp.symm.trans a1)
    exact ⟨_, _, _, rfl, ho⟩
  have str : ∀ x, o = .str x → ∃ t, u = .str ⟨x.toArray⟩ t := fun x e => by subst e; exact strRef r
  cases m with
  | append =>
    cases o with
    | obj n => obtain ⟨a, us, kn, rfl, ho⟩ := lst _ rfl; exact Calls.getMethod_list_append ho rfl rfl k
    | _ => exact zE e
  | extend =>
    cases o with
    | obj n => obtain ⟨a, us, kn, rfl, ho⟩ := lst _ rfl; exact getMethod_list_of F.slot_list_extend F.type_list_extend (lst_isList ho) ⟨_, ho, rfl⟩ k
    | _ => exact zE e
  | find =>
    cases o with
    | str x => obtain ⟨_, rfl⟩ := str _ rfl; exact GM.find k
    | _ => exact zE e
  | split =>
    cases o with
    | str x => obtain ⟨_, rfl⟩ := str _ rfl; exact GM.split k
    | _ => exact zE e
  | join =>
    cases o with
    | str x => obtain ⟨_, rfl⟩ := str _ rfl; exact GM.join k
    | _ => exact zE e
  | lower =>
    cases o with
    | str x => obtain ⟨_, rfl⟩ := str _ rfl; exact GM.lower k
    | _ => exact zE e
  | upper =>
    cases o with
    | str x => obtain ⟨_, rfl⟩ := str _ rfl; exact GM.upper k
    | _ => exact zE e
theorem setL {n : Nat} {vs : List V} {us' : List Value} {k' : Nat} {h h' : Heap} {p : Addr × Addr} (I : Inv c σ ρ h) (hp : ρ[n]? = some p) (hd : p.2 = p.1) (hs : Heap.SameBut p.1 h h')
    (ho : h'.get? p.1 = some (lstObj us' k')) (r : Ext h ρ h' ρ → VsRep h' ρ vs us') : Inv c (σ.set n (.list vs)) ρ h' ∧ Ext h ρ h' ρ :=
  I.upd hp (fun b _ b1 _ e => (hs.2 b b1).trans e) fun x => .list ho (r x) hd
theorem extend_s {D b : Addr} {ys zs : List Value} {n n2 : Nat} {Q : Value → Shared → Prop} (hm : s.heap.get? D = some (lstObj ys n)) (hb : s.heap.get? b = some (lstObj zs n2)) (hsz : ys.length + zs.length ≤ sizeLine)
    (h : ∀ h' n', Heap.SameBut D s.heap h' → h'.get? D = some (lstObj (ys ++ zs) n') → Q .none { s with heap := h' }) :
    wpAny (model c.prog c.w) A (call (.builtin "list.extend") [.ref D, .ref b]) Q E s := by
  have hsz' : ys.toArray.size + zs.toArray.size ≤ sizeLine := by simpa using hsz
  refine call_meets PySem.F.slot_list_extend ⟨_, hm, rfl⟩ PySem.F.entry_list_extend (PySem.F.args_list_extend_2 _ _) (AutoSeq1.list_extend_list_list_0 D ys.toArray n b zs.toArray n2 (extend_door hsz') (Nat.le_trans (Nat.le_add_right _ _) hsz')) ⟨hm, hb, ?_⟩
  have e : ys.toArray ++ zs.toArray = (ys ++ zs).toArray := by simp
  have ho' : (s.heap.update D (Obj.mapSeq fun x => x ++ zs.toArray)).get? D = some (lstObj (ys ++ zs) (if (ys.toArray ++ zs.toArray).size == ys.toArray.size then n else n + 1)) := by
    rw [Heap.get?_update_self _ hm (by rw [mapSeq_app]; rfl), mapSeq_app, e]
  exact h _ _ (Heap.SameBut.update ..) ho'
theorem joinL_sum (sp : List Nat) : ∀ xs : List (List Nat), (xs.map List.length).sum ≤ (joinL sp xs).length
  | [] => Nat.le_refl _
  | [x] => by rw [List.map_singleton, List.sum_singleton]; exact Nat.le_refl _
  | x :: y :: r => by
    have ih := joinL_sum sp (y :: r)
    rw [List.map_cons, List.sum_cons, show joinL sp (x :: y :: r) = x ++ sp ++ joinL sp (y :: r) from rfl, List.length_append, List.length_append]
    lia
theorem join_s {sp : List Nat} {t : Tok} {p : Addr} {xs : List (List Nat)} {ts : List Tok} {kn : Nat} {Q : Value → Shared → Prop} (ho : s.heap.get? p = some (lstObj ((xs.zip ts).map fun q => Value.str ⟨q.1.toArray⟩ q.2) kn)) (lt : ts.length = xs.length)
    (hl : (joinL sp xs).length ≤ lineL ∧ xs.length ≤ lineL ∧ sp.length ≤ 16) (k : ∀ u, VRep s.heap ρ (.str (joinL sp xs)) u → ∀ tk, Q u { s with toks := tk }) : wpAny (model c.prog c.w) A (call (.builtin "str.join") [.str ⟨sp.toArray⟩ t, .ref p]) Q E s := by
  obtain ⟨hl1, hl2, hl3⟩ := hl
  have hl1 := le_line hl1
  have hl2 := le_line hl2
  have hmap : ((xs.zip ts).map fun p => ((⟨p.1.toArray⟩ : Str), p.2)).map (·.1) = xs.map fun x => (⟨x.toArray⟩ : Str) := by
    rw [List.map_map]
    show (xs.zip ts).map ((fun x => (⟨x.toArray⟩ : Str)) ∘ Prod.fst) = _
    rw [← List.map_map, List.map_fst_zip (Nat.le_of_eq lt.symm)]
  refine SC.join (l := (xs.zip ts).map fun p => ((⟨p.1.toArray⟩ : Str), p.2)) ?_ hmap ?_ ?_
  · have : strValues ((xs.zip ts).map fun p => ((⟨p.1.toArray⟩ : Str), p.2)) = (xs.zip ts).map fun p => Value.str ⟨p.1.toArray⟩ p.2 := by
      delta strValues; rw [List.map_map]; rfl
    rw [this]
    exact lst_isList ho
  · refine PyProof.Rows.joinOk_of ?_
    rw [List.map_map, List.length_map, str_len]
    have h1 : (xs.map ((fun x : Str => x.length) ∘ fun x => (⟨x.toArray⟩ : Str))) = xs.map List.length := by
      apply List.map_congr_left; intro y _; exact str_len y
    have h2 := joinL_sum sp xs
    have h3 : xs.length * sp.length ≤ 100000 * 16 := Nat.mul_le_mul hl2 hl3
    show (xs.map ((fun x : Str => x.length) ∘ fun x => (⟨x.toArray⟩ : Str))).sum + _ ≤ _
    rw [h1]; lia
  · intro t' kk
    rw [join_is, List.map_map]
    rw [show (xs.map ((fun p : Str => p.cps.toList) ∘ fun x => (⟨x.toArray⟩ : Str))) = xs from List.map_id xs]
    exact k _ (VRep.str (joinL sp xs) t') kk
theorem methV_s {m : ME} {o v : V} {vs : List V} {u : Value} {us : List Value} {Q : Value → Shared → Prop} (I : Inv c σ ρ s.heap) (r : VRep s.heap ρ o u) (rs : VsRep s.heap ρ vs us)
    (e : methV m o vs σ = some (v, σ')) (k : Kont c s ρ σ' v Q) : wpAny (model c.prog c.w) A (call (.builtin (meId m)) (u :: us)) Q E s := by
  cases m with
  | append =>
    cases o with
    | obj n =>
      revert e; refine bE fun w hw e => ?_
      obtain rfl := one_is hw
      obtain ⟨uw, rfl, rw'⟩ := rs.one
      revert e; refine bE fun xs e1 e2 => ?_
      revert e2; refine iE fun hl e2 => ?_
      obtain ⟨rfl, rfl⟩ := Prod.mk.inj (Option.some.inj e2)
      obtain ⟨p, us, kn, hp, ho, rl, hd⟩ := listAt_at I e1
      obtain ⟨_, a1, rfl⟩ := objRef r
      obtain rfl := Option.some.inj (hp.symm.trans a1)
      have hlen := rl.length
      have hl := le_line hl
      refine append_at ho (fun h' hs ho' => ?_) (by rw [List.size_toArray, sizeLine_is]; lia)
      have hpush : us.toArray.push uw = (us ++ [uw]).toArray := by simp
      rw [hpush] at ho'
      obtain ⟨I', x'⟩ := setL I hp hd hs ho' (vs := xs ++ [w]) fun x => (rl.ext x).append (.cons (rw'.ext x) .nil)
      exact k _ _ _ s.toks x' I' .none
    | _ => exact zE e
  | extend =>
    cases o with
    | obj n =>
      revert e; refine bE fun w hw e => ?_
      obtain rfl := one_is hw
      obtain ⟨uw, rfl, rw'⟩ := rs.one
      cases w with
      | obj kk =>
        revert e; refine nE fun hne e => ?_
        revert e; refine bE fun xs e1 e2 => ?_
        revert e2; refine bE fun ys e3 e4 => ?_
        revert e4; refine iE fun hl e4 => ?_
        obtain ⟨rfl, rfl⟩ := Prod.mk.inj (Option.some.inj e4)
        obtain ⟨p, us, kn, hp, ho, rl, hd⟩ := listAt_at I e1
        obtain ⟨p2, us2, kn2, hp2, ho2, rl2, hd2⟩ := listAt_at I e3
        obtain ⟨_, a1, rfl⟩ := objRef r
        obtain rfl := Option.some.inj (hp.symm.trans a1)
        obtain ⟨_, a2, rfl⟩ := objRef rw'
        obtain rfl := Option.some.inj (hp2.symm.trans a2)
        have hlen := rl.length
        have hlen2 := rl2.length
        have hl1 := le_line hl.1
        have hl2 := le_line hl.2
        refine extend_s ho ho2 (by rw [sizeLine_is]; lia) fun h' n' hs ho' => ?_
        obtain ⟨I', x'⟩ := setL I hp hd hs ho' (vs := xs ++ ys) fun x => (rl.ext x).append (rl2.ext x)
        exact k _ _ _ s.toks x' I' .none
      | _ => exact zE e
    | _ => exact zE e
  | find =>
    cases o with
    | str x =>
      revert e; refine bE fun w hw e => ?_
      obtain rfl := one_is hw
      obtain ⟨uw, rfl, r1⟩ := rs.one
      cases w with
      | str y =>
        revert e; refine bE fun d hd e => ?_
        obtain rfl := one_is hd
        revert e; refine iE fun hl e => ?_
        obtain ⟨rfl, rfl⟩ := Prod.mk.inj (Option.some.inj e)
        obtain ⟨_, rfl⟩ := strRef r
        obtain ⟨_, rfl⟩ := strRef r1
        refine SC.find ?_
        rw [show (⟨[d].toArray⟩ : Str) = ⟨#[d]⟩ from rfl, find_is]
        exact k.same I (.int _ _) _
      | _ => exact zE e
    | _ => exact zE e
  | split =>
    cases o with
    | str x =>
      revert e; refine bE fun w hw e => ?_
      obtain rfl := one_is hw
      obtain ⟨uw, rfl, r1⟩ := rs.one
      cases w with
      | str y =>
        revert e; refine bE fun d hd e => ?_
        obtain rfl := one_is hd
        revert e; refine iE fun hl e => ?_
        obtain ⟨rfl, rfl⟩ := Prod.mk.inj (Option.some.inj e)
        obtain ⟨_, rfl⟩ := strRef r
        obtain ⟨_, rfl⟩ := strRef r1
        have hl := le_line hl
        refine split_s (by rw [str_len, sizeLine_is]; lia) fun l kk hs => ?_
        have e0 := split_is ⟨x.toArray⟩ d
        rw [← hs] at e0
        have rr := strValues_rep (h := s.heap) (ρ := ρ) l
        have e1 : (l.map fun p => V.str p.1.cps.toList) = (splitL d x).map V.str := by
          have : splitL d x = l.map fun p => p.1.cps.toList := by simpa [Function.comp_def] using e0.symm
          rw [this, List.map_map]; rfl
        rw [e1] at rr
        obtain ⟨I', x', r'⟩ := allocL (k := 0) I rr
        exact k _ _ _ _ x' I' r'
      | _ => exact zE e
    | _ => exact zE e
  | join =>
    cases o with
    | str sp =>
      revert e; refine bE fun w hw e => ?_
      obtain rfl := one_is hw
      obtain ⟨uw, rfl, r1⟩ := rs.one
      cases w with
      | obj n =>
        revert e; refine bE fun ws e3 e => ?_
        revert e; refine bE fun xs e4 e => ?_
        revert e; refine iE fun hl e => ?_
        obtain ⟨rfl, rfl⟩ := Prod.mk.inj (Option.some.inj e)
        obtain ⟨p, us, kn, hp, ho, rl, hd⟩ := listAt_at I e3
        obtain ⟨_, rfl⟩ := strRef r
        obtain ⟨_, a2, rfl⟩ := objRef r1
        obtain rfl := Option.some.inj (hp.symm.trans a2)
        obtain ⟨ts, lt, rfl⟩ := rl.strs e4
        exact join_s ho lt hl fun u r tk => k.same I r tk
      | _ => exact zE e
    | _ => exact zE e
  | lower =>
    cases o with
    | str x =>
      revert e; refine bE fun d hd e => ?_
      obtain rfl := one_is hd
      revert e; refine iE fun hd e => ?_
      obtain ⟨rfl, rfl⟩ := Prod.mk.inj (Option.some.inj e)
      obtain rfl := List.isEmpty_iff.mp hd.2
      obtain ⟨_, rfl⟩ := strRef r
      obtain rfl := rs.invN
      have el := lower_is d hd.1
      refine SC.lower ?_ ?_
      · rw [show (⟨[d].toArray⟩ : Str) = ⟨#[d]⟩ from rfl, el]; show Builtin.Str.tooLong 1 = false; decide
      · rw [show (⟨[d].toArray⟩ : Str) = ⟨#[d]⟩ from rfl, el]
        exact k.same I (VRep.str [lowL d] _) _
    | _ => exact zE e
  | upper =>
    cases o with
    | str x =>
      revert e; refine bE fun d hd e => ?_
      obtain rfl := one_is hd
      revert e; refine iE fun hd e => ?_
      obtain ⟨rfl, rfl⟩ := Prod.mk.inj (Option.some.inj e)
      obtain rfl := List.isEmpty_iff.mp hd.2
      obtain ⟨_, rfl⟩ := strRef r
      obtain rfl := rs.invN
      have el := upper_is d hd.1
      refine SC.upper ?_ ?_
      · rw [show (⟨[d].toArray⟩ : Str) = ⟨#[d]⟩ from rfl, el]; show Builtin.Str.tooLong 1 = false; decide
      · rw [show (⟨[d].toArray⟩ : Str) = ⟨#[d]⟩ from rfl, el]
        exact k.same I (VRep.str [uppL d] _) _
    | _ => exact zE e
end
end Mine
namespace Mine
open PySem PySem.W PyProof.Rows PySem.Calls
theorem attrBase {M : Model} {A : Around} {Q : Value → Shared → Prop} {E : Value → Shared → Prop} {s : Shared} {o : Expr} {a : Str} {env : Env} {t : Sem Value} (h : bareCall o = false) (k : wpAny M A t Q E s) :
    wpAny M A (attributeBase o a env t) Q E s := by
  have : attributeBase o a env t = t := by
    cases o with
    | Call f as kws p => cases as with
      | nil => exact tE h
      | cons => cases f <;> rfl
    | _ => rfl
  rw [this]; exact k
theorem plain_args {pos : Pos} {env : Env} : ∀ {es : List Expr}, (∀ e ∈ es, isStarred e = false) → backTo pos (starEach es env) = es.map fun e => (false, eval e env)
  | [], _ => rfl
  | e :: r, h => by
    have ih := plain_args (pos := pos) (env := env) (es := r) fun x hx => h x (List.mem_cons_of_mem _ hx)
    have h0 := h e (List.mem_cons_self ..)
    have : starEach (e :: r) env = (false, eval e env) :: starEach r env := by
      cases e <;> first | rfl | (simp [isStarred] at h0)
    rw [this]
    show (false, eval e env) :: backTo pos (starEach r env) = _
    rw [ih]; rfl
theorem any_plain {env : Env} : ∀ (es : List Expr), ((es.map fun e => (false, eval e env)).any (·.1)) = false
  | [] => rfl
  | _ :: r => by simp [any_plain r]
section
variable {c : Ctx} {Γ : CE} {env : LE} {pe : Env} {A : Around} {E : Value → Shared → Prop} {s : Shared} {σ σ' : AH} {ρ : Rho}
theorem callW {pos : Pos} {f : Value} {first : List Value} {es : List Expr} {Q : Value → Shared → Prop} (hst : ∀ e ∈ es, isStarred e = false)
    (hk : ∀ h : Heap, c.K.In h → ∃ k, (k = Keeper.frame ∨ k = Keeper.machine ∨ k = Keeper.boundFrame) ∧ Looks (model c.prog c.w) h (keeperOf f) k)
    (h : wpAny (model c.prog c.w) A (spliced (es.map fun e => (false, eval e pe))) (fun us s₁ => c.K.In s₁.heap ∧ wpAny (model c.prog c.w) A (PySem.call f (first ++ us)) Q E s₁) E s) :
    wpAny (model c.prog c.w) A (callWith pos f first (backTo pos (starEach es pe)) []) Q E s := by
  rw [plain_args hst]
  refine callWith_of (P := fun h => c.K.In h) (by rw [any_plain]; rfl) hk ?_
  cases es with
  | nil =>
    unfold evalArgs
    show wpAny _ A (spliced [] >>= _) _ E s
    refine wpAny_bind (wpAny_mono h (fun vs s' h' => ?_) fun _ _ x => x)
    refine wpAny_holding ?_
    exact wpAny_bind (wpAny_pure (wpAny_bind (wpAny_pure (wpAny_pure h'))))
  | cons e r => exact evalArgs_plain h
theorem keeps_blt (b : String) (h : Heap) : ∃ k, (k = Keeper.frame ∨ k = Keeper.machine ∨ k = Keeper.boundFrame) ∧ Looks (model c.prog c.w) h (keeperOf (.builtin b)) k :=
  ⟨.machine, .inr (.inl rfl), Looks.of_pure rfl⟩
theorem keeps_bi (b : BI) (h : Heap) : ∃ k, (k = Keeper.frame ∨ k = Keeper.machine ∨ k = Keeper.boundFrame) ∧ Looks (model c.prog c.w) h (keeperOf (biVal b)) k := by
  cases b <;> exact ⟨.machine, .inr (.inl rfl), Looks.of_pure rfl⟩
theorem handed_of {h : Heap} {v : V} {u : Value} (r : VRep h ρ v u) : handedIn u = true := by cases r <;> rfl
theorem attr_s {o v : V} {u : Value} {a : Nat} {Q : Value → Shared → Prop} (W : World c) (ha : a < 28) (I : Inv c σ ρ s.heap) (r : VRep s.heap ρ o u) (e : attrV o a σ = some v) (k : Kont c s ρ σ v Q) :
    wpAny (model c.prog c.w) A (getAttr u (anm a) true) Q E s := by
  obtain ⟨n, C, fs, rfl, q, e⟩ := attrV_is e
  obtain ⟨p, hp, ro⟩ := I.at q
  obtain ⟨_, a1, rfl⟩ := objRef r
  obtain rfl := Option.some.inj (hp.symm.trans a1)
  cases ro with
  | inst l e1 e2 rf hne =>
    obtain ⟨u', hu, ru⟩ := rf.get a v e
    have Cl := W.cls C l
    have Ia : PySem.W.InstAt s.heap p.1 (instObj (c.cls C) p.2) (c.cls C) (some (dictOf _ _)) := ⟨e1, rfl, rfl, e2⟩
    refine get_value I.inK Ia (plainGet_of Cl.get).1 (findObj_own Cl.dict (Cl.no a ha) rfl ?_) (handed_of ru) (k.same I ru _)
    rw [lookIn_dict]; exact hu
theorem newTuple_s {vs : List V} {us : List Value} {Q : Value → Shared → Prop} (I : Inv c σ ρ s.heap) (r : VsRep s.heap ρ vs us) (hl : vs.length ≤ 1000) (k : Kont c s ρ σ (.tup vs) Q) :
    wpAny (model c.prog c.w) A (newTuple us) Q E s := by
  have hlen := r.length
  refine wpAny_newObj_type ?_ (by show us.toArray.size ≤ sizeLine; rw [List.size_toArray, sizeLine_is]; lia)
  exact k _ ρ _ _ (Ext.push _) (I.push _) (.tup (k := 0) (Heap.get?_push_size _ rfl) (I.fresh (get?_size _)) (r.ext (Ext.push _)))
theorem newList_s {vs : List V} {us : List Value} {Q : Value → Shared → Prop} (I : Inv c σ ρ s.heap) (r : VsRep s.heap ρ vs us) (hl : vs.length ≤ 1000) (k : Kont c s ρ (σ ++ [.list vs]) (.obj σ.length) Q) :
    wpAny (model c.prog c.w) A (newList us) Q E s := by
  have hlen := r.length
  refine wpAny_newObj_type ?_ (by show us.toArray.size ≤ sizeLine; rw [List.size_toArray, sizeLine_is]; lia)
  obtain ⟨I', x', r'⟩ := allocL (k := 0) I r
  exact k _ _ _ _ x' I' r'
theorem part_of {h : Heap} {v : V} {u : Value} {l : Option Nat} (r : VRep h ρ v u) (e : idxV v = some l) : IsPart u (Option.map Int.ofNat l) := by
  rcases idxV_is e with ⟨rfl, rfl⟩ | ⟨k, rfl, hk, rfl⟩
  · obtain rfl := noneRef r; exact .none
  · obtain ⟨t, rfl⟩ := intRef r
    show IsPart _ (some ((k.toNat : Nat) : Int))
    rw [Int.toNat_of_nonneg hk.1]
    exact .int _ _
theorem pick_is (us : List Value) (l h : Option Nat) : (slicePick us.toArray (Option.map Int.ofNat l) (Option.map Int.ofNat h) none) = (cutL us l h).toArray := by
  rw [slicePick_plain]
  congr 1
  unfold cutL
  have hc : ∀ n k : Nat, clipAt n (Int.ofNat k) = min k n := fun n k => clipAt_nat n k
  cases l with
  | none =>
    cases h with
    | none => simp
    | some h =>
      simp only [Option.map_some, Option.map_none, Option.elim_some, Option.elim_none, Option.getD_some, Option.getD_none, hc, List.size_toArray, Nat.sub_zero, List.drop_zero]
      by_cases hh : h ≤ us.length
      · rw [Nat.min_eq_left hh]
      · rw [Nat.min_eq_right (by lia), List.take_of_length_le (Nat.le_refl _), List.take_of_length_le (by lia)]
  | some l =>
    cases h with
    | none =>
      simp only [Option.map_some, Option.map_none, Option.elim_some, Option.elim_none, Option.getD_some, Option.getD_none, hc, List.size_toArray, List.take_length]
      by_cases hl : l ≤ us.length
      · rw [Nat.min_eq_left hl, List.take_of_length_le (by simp)]
      · rw [List.drop_eq_nil_of_le (by lia : us.length ≤ l), Nat.min_eq_right (by lia)]; simp
    | some h =>
      simp only [Option.map_some, Option.elim_some, Option.getD_some, hc, List.size_toArray]
      by_cases hl : l ≤ us.length
      · rw [Nat.min_eq_left hl, List.drop_take]
        by_cases hh : h ≤ us.length
        · rw [Nat.min_eq_left hh]
        · rw [Nat.min_eq_right (by lia), List.take_of_length_le (by simp), List.take_of_length_le (by simp; lia)]
      · have h1 : (us.take h).drop l = [] := List.drop_eq_nil_of_le (by rw [List.length_take]; lia)
        have h2 : us.drop (min l us.length) = [] := List.drop_eq_nil_of_le (by lia)
        rw [h1, h2, List.take_nil]
theorem VsRep.cut {h : Heap} {vs : List V} {us : List Value} (r : VsRep h ρ vs us) (l k : Option Nat) : VsRep h ρ (cutL vs l k) (cutL us l k) := by
  unfold cutL
  rw [r.length]
  exact (r.take _).drop _
theorem slice_s {o lo hi v : V} {u ul uh : Value} {sl : Addr} {Q : Value → Shared → Prop} (I : Inv c σ ρ s.heap) (r : VRep s.heap ρ o u) (rl : VRep s.heap ρ lo ul) (rh : VRep s.heap ρ hi uh) (hs : s.heap.IsSliceOf sl ul uh .none)
    (e : sliceV o lo hi σ = some (v, σ')) (k : Kont c s ρ σ' v Q) : wpAny (model c.prog c.w) A (getItem u (.ref sl)) Q E s ∧ ∃ T id, s.TypeIs u T ∧ typeLookup (.type T) "__getitem__" = pure (some (.builtin id)) := by
  obtain ⟨n, l, h, vs, rfl, e1, e2, e3, hl, e4⟩ := sliceV_is e
  obtain ⟨rfl, rfl⟩ := Prod.mk.inj e4
  obtain ⟨p, us, kn, hp, ho, rr, hd⟩ := listAt_at I e3
  obtain ⟨_, a1, rfl⟩ := objRef r
  obtain rfl := Option.some.inj (hp.symm.trans a1)
  have hlist := lst_isList ho
  have hlen := rr.length
  have hl := le_line hl
  refine ⟨wpAny_getItem_list_slice hlist hs (part_of rl e1) (part_of rh e2) .none (by simp) ?_ (by rw [List.size_toArray, sizeLine_is]; lia), _, _, hlist.typeIs, slot_list_getitem.lookup⟩
  rw [pick_is]
  obtain ⟨I', x', r'⟩ := allocL (k := 0) I (rr.cut l h)
  exact k _ _ _ _ x' I' r'
theorem rev_s {o v : V} {u : Value} {sl : Addr} {t : Tok} {Q : Value → Shared → Prop} (I : Inv c σ ρ s.heap) (r : VRep s.heap ρ o u) (hs : s.heap.IsSliceOf sl .none .none (.int (-1) t))
    (e : revV o σ = some (v, σ')) (k : Kont c s ρ σ' v Q) : wpAny (model c.prog c.w) A (getItem u (.ref sl)) Q E s ∧ ∃ T id, s.TypeIs u T ∧ typeLookup (.type T) "__getitem__" = pure (some (.builtin id)) := by
  obtain ⟨n, vs, rfl, e3, hl, e4⟩ := revV_is e
  obtain ⟨rfl, rfl⟩ := Prod.mk.inj e4
  obtain ⟨p, us, kn, hp, ho, rr, hd⟩ := listAt_at I e3
  obtain ⟨_, a1, rfl⟩ := objRef r
  obtain rfl := Option.some.inj (hp.symm.trans a1)
  have hlist := lst_isList ho
  have hlen := rr.length
  have hl := le_line hl
  refine ⟨wpAny_getItem_list_slice hlist hs .none .none (.int (-1) t) (by simp) ?_ (by rw [List.size_toArray, sizeLine_is]; lia), _, _, hlist.typeIs, slot_list_getitem.lookup⟩
  rw [krv_pick]
  obtain ⟨I', x', r'⟩ := allocL (k := 0) I rr.reverse
  exact k _ _ _ _ x' I' r'
end
end Mine
namespace Mine
open PySem PySem.W PyProof.Rows PySem.Calls
noncomputable abbrev CFun := Nat → List V → AH → Option (V × AH)
noncomputable def SE (c : Ctx) (F : CFun) (d n : Nat) : Prop := ∀ (Γ : CE) (nx : Nat) (e : Expr) (ie : IE), cE glb aidx n Γ nx e = some ie → ∀ (A : Around) (pe : Env) (env : LE) (s : Shared) (σ : AH) (ρ : Rho) (v : V) (σ' : AH) (Q : Value → Shared → Prop) (E : Value → Shared → Prop),
  Room A d → Inv c σ ρ s.heap → Frm c Γ env pe ρ s.heap → evE initOf F ie env σ = some (v, σ') → Kont c s ρ σ' v Q → wpAny (model c.prog c.w) A (eval e pe) Q E s
noncomputable def ST (c : Ctx) (F : CFun) (d n : Nat) : Prop := ∀ (Γ : CE) (nx : Nat) (e : Expr) (it : IT), cT glb aidx n Γ nx e = some it → ∀ (A : Around) (pe : Env) (env : LE) (s : Shared) (σ : AH) (ρ : Rho) (b : Bool) (σ' : AH) (Q : Bool → Shared → Prop) (E : Value → Shared → Prop),
  Room A d → Inv c σ ρ s.heap → Frm c Γ env pe ρ s.heap → evT initOf F it env σ = some (b, σ') → KontB c s ρ σ' b Q → wpAny (model c.prog c.w) A (PySem.isTrue e pe (eval e pe)) Q E s
section
variable {c : Ctx} {F : CFun} {d n : Nat} {Γ : CE} {nx : Nat} {env : LE} {pe : Env} {A : Around} {E : Value → Shared → Prop} {s : Shared} {σ σ' : AH} {ρ : Rho}
theorem Kont.tail {v : V} {Q : Value → Shared → Prop} {ρ₁ : Rho} {h₁ : Heap} {t₁ : Nat} {σ₁ : AH} (k : Kont c s ρ σ' v Q) (x : Ext s.heap ρ h₁ ρ₁) (I₁ : Inv c σ₁ ρ₁ h₁) : Kont c { s with heap := h₁, toks := t₁ } ρ₁ σ' v Q :=
  fun u ρ' h' tk x' I' r => k u ρ' h' tk (x.trans I₁ x') I' r
theorem KontB.tail {b : Bool} {Q : Bool → Shared → Prop} {ρ₁ : Rho} {h₁ : Heap} {t₁ : Nat} {σ₁ : AH} (k : KontB c s ρ σ' b Q) (x : Ext s.heap ρ h₁ ρ₁) (I₁ : Inv c σ₁ ρ₁ h₁) : KontB c { s with heap := h₁, toks := t₁ } ρ₁ σ' b Q :=
  fun ρ' h' tk x' I' => k ρ' h' tk (x.trans I₁ x') I'
theorem KontL.tail {vs : List V} {Q : List Value → Shared → Prop} {ρ₁ : Rho} {h₁ : Heap} {t₁ : Nat} {σ₁ : AH} (k : KontL c s ρ σ' vs Q) (x : Ext s.heap ρ h₁ ρ₁) (I₁ : Inv c σ₁ ρ₁ h₁) : KontL c { s with heap := h₁, toks := t₁ } ρ₁ σ' vs Q :=
  fun u ρ' h' tk x' I' r => k u ρ' h' tk (x.trans I₁ x') I' r
theorem items_s (hE : SE c F d n) (R : Room A d) : ∀ (es : List Expr) (ies : IEs), cList (cE glb aidx n Γ nx) es = some ies → ∀ (s : Shared) (σ : AH) (ρ : Rho) (vs : List V) (Q : List Value → Shared → Prop),
    Inv c σ ρ s.heap → Frm c Γ env pe ρ s.heap → evEs initOf F ies env σ = some (vs, σ') → KontL c s ρ σ' vs Q → wpAny (model c.prog c.w) A (spliced (es.map fun e => (false, eval e pe))) Q E s
  | [], ies, h, s, σ, ρ, vs, Q, I, Fm, e, k => by
    cases h
    cases (show some _ = some _ from e)
    exact wpAny_pure (k [] ρ s.heap s.toks (Ext.refl _ _) I .nil)
  | x :: r, ies, h, s, σ, ρ, vs, Q, I, Fm, e, k => by
    revert h; refine bE fun a ha h => ?_
    revert h; refine bE fun b hb h => ?_
    have ih := fun (s : Shared) (σ : AH) (ρ : Rho) (vs : List V) (Q : List Value → Shared → Prop) => items_s hE R r b hb s σ ρ vs Q
    cases h
    revert e; refine bE fun p hp e => ?_
    revert e; refine bE fun q hq e => ?_
    first | obtain rfl := Option.some.inj e | cases e
    refine spliced_cons (hE Γ nx x a ha A pe env s σ ρ p.1 p.2 _ _ R I Fm hp fun u ρ₁ h₁ t₁ x₁ I₁ r₁ => ?_)
    refine ih _ p.2 ρ₁ q.1 _ I₁ (Fm.ext x₁) hq fun us ρ₂ h₂ t₂ x₂ I₂ r₂ => ?_
    exact k _ _ _ _ (x₁.trans I₁ x₂) I₂ (.cons (r₁.ext x₂) r₂)
theorem cE_noStar {e : Expr} {ie : IE} (h : cE glb aidx n Γ nx e = some ie) : isStarred e = false := by
  cases n with
  | zero => exact zE h
  | succ n => cases e <;> first | rfl | exact zE h
theorem noStar : ∀ {es : List Expr} {ies : IEs}, cList (cE glb aidx n Γ nx) es = some ies → ∀ e ∈ es, isStarred e = false
  | [], _, _, _, h => nomatch h
  | x :: r, ies, h, e, he => by
    revert h; refine bE fun a ha h => ?_
    revert h; refine bE fun b hb h => ?_
    rcases List.mem_cons.mp he with rfl | he
    · exact cE_noStar ha
    · exact noStar hb e he
theorem bool_of {h : Heap} {b : Bool} {u : Value} (r : VRep h ρ (.bool b) u) : u = .bool b := boolRef r
theorem chain_s (hE : SE c F d n) (R : Room A d) {pos : Pos} : ∀ (ops : List CmpOp) (es : List Expr) (ics : ICs), cChain (cE glb aidx n Γ nx) ops es = some ics →
    ∀ (s : Shared) (σ : AH) (ρ : Rho) (x : V) (u : Value) (b : Bool) (Q : Value → Shared → Prop), Inv c σ ρ s.heap → Frm c Γ env pe ρ s.heap → VRep s.heap ρ x u → evC initOf F ics x env σ = some (b, σ') →
      Kont c s ρ σ' (.bool b) Q → wpAny (model c.prog c.w) A (compareChain pos u ops (evalEach es pe)) Q E s
  | op :: ops, es, ics, h, s, σ, ρ, x, u, b, Q, I, Fm, r, ev, k => by
    cases es with
    | nil => exact zE h
    | cons e es =>
    revert h; refine bE fun a ha h => ?_
    revert h; refine oE (fun c0 hc0 h => ?_) (fun _ h => ?_)
    · obtain ⟨h1, h2⟩ := List.cons.inj (one_is hc0)
      subst h1
      cases ops with
      | cons => exact zE h
      | nil =>
      cases es with
      | cons => cases h2
      | nil =>
      have h : some _ = some _ := h
      first | obtain rfl := Option.some.inj h | cases h
      revert ev; refine bE fun p hp ev => ?_
      revert ev; refine mE fun b' hb ev => ?_
      cases ev
      refine chain_last (hE Γ nx e a ha A pe env s σ ρ p.1 p.2 _ _ R I Fm hp fun u₁ ρ₁ h₁ t₁ x₁ I₁ r₁ => ?_)
      exact cmpV_s (by have := R.units; lia) I₁ (r.ext x₁) r₁ hb (k _ _ _ _ x₁ I₁ (.bool _))
    · revert h; refine bE fun ic hc h => ?_
      cases ops with
      | nil => exact zE hc
      | cons op' ops =>
      cases es with
      | nil => exact zE hc
      | cons e' es =>
      first | obtain rfl := Option.some.inj h | cases h
      revert ev; refine bE fun p hp ev => ?_
      revert ev; refine bE fun b' hb ev => ?_
      refine chain_link (hE Γ nx e a ha A pe env s σ ρ p.1 p.2 _ _ R I Fm hp fun u₁ ρ₁ h₁ t₁ x₁ I₁ r₁ => ?_)
      refine cmpV_s (by have := R.units; lia) I₁ (r.ext x₁) r₁ hb (wpAny_truthy_bool ?_)
      cases b' with
      | true =>
        dsimp only at ev
        exact chain_s hE R (op' :: ops) (e' :: es) ic hc _ p.2 ρ₁ p.1 u₁ b Q I₁ (Fm.ext x₁) r₁ ev (k.tail x₁ I₁)
      | false =>
        cases ev
        exact k _ _ _ _ x₁ I₁ (.bool _)
  | [], _, _, h, _, _, _, _, _, _, _, _, _, _, _, _ => zE h
theorem chainT_s (hE : SE c F d n) (R : Room A d) {pos : Pos} : ∀ (ops : List CmpOp) (es : List Expr) (ics : ICs), cChain (cE glb aidx n Γ nx) ops es = some ics →
    ∀ (s : Shared) (σ : AH) (ρ : Rho) (x : V) (u : Value) (b : Bool) (Q : Bool → Shared → Prop), Inv c σ ρ s.heap → Frm c Γ env pe ρ s.heap → VRep s.heap ρ x u → evC initOf F ics x env σ = some (b, σ') →
      KontB c s ρ σ' b Q → wpAny (model c.prog c.w) A (testChain pos u ops (evalEach es pe)) Q E s
  | op :: ops, es, ics, h, s, σ, ρ, x, u, b, Q, I, Fm, r, ev, k => by
    cases es with
    | nil => exact zE h
    | cons e es =>
    revert h; refine bE fun a ha h => ?_
    revert h; refine oE (fun c0 hc0 h => ?_) (fun _ h => ?_)
    · obtain ⟨h1, h2⟩ := List.cons.inj (one_is hc0)
      subst h1
      cases ops with
      | cons => exact zE h
      | nil =>
      cases es with
      | cons => cases h2
      | nil =>
      have h : some _ = some _ := h
      first | obtain rfl := Option.some.inj h | cases h
      revert ev; refine bE fun p hp ev => ?_
      revert ev; refine mE fun b' hb ev => ?_
      cases ev
      refine test_last (hE Γ nx e a ha A pe env s σ ρ p.1 p.2 _ _ R I Fm hp fun u₁ ρ₁ h₁ t₁ x₁ I₁ r₁ => ?_)
      exact cmpV_s (by have := R.units; lia) I₁ (r.ext x₁) r₁ hb (wpAny_truthy_bool (k _ _ _ x₁ I₁))
    · revert h; refine bE fun ic hc h => ?_
      cases ops with
      | nil => exact zE hc
      | cons op' ops =>
      cases es with
      | nil => exact zE hc
      | cons e' es =>
      first | obtain rfl := Option.some.inj h | cases h
      revert ev; refine bE fun p hp ev => ?_
      revert ev; refine bE fun b' hb ev => ?_
      refine test_link (hE Γ nx e a ha A pe env s σ ρ p.1 p.2 _ _ R I Fm hp fun u₁ ρ₁ h₁ t₁ x₁ I₁ r₁ => ?_)
      refine cmpV_s (by have := R.units; lia) I₁ (r.ext x₁) r₁ hb (wpAny_truthy_bool ?_)
      cases b' with
      | true =>
        dsimp only at ev
        exact chainT_s hE R (op' :: ops) (e' :: es) ic hc _ p.2 ρ₁ p.1 u₁ b Q I₁ (Fm.ext x₁) r₁ ev (k.tail x₁ I₁)
      | false =>
        cases ev
        exact k _ _ _ x₁ I₁
  | [], _, _, h, _, _, _, _, _, _, _, _, _, _, _, _ => zE h
theorem bop_s (hE : SE c F d n) (R : Room A d) {pos : Pos} (op : BoolOp) (and : Bool) (ho : and = (op == .And)) : ∀ (es : List Expr) (ie : IE), cBop and (cE glb aidx n Γ nx) es = some ie →
    ∀ (s : Shared) (σ : AH) (ρ : Rho) (v : V) (Q : Value → Shared → Prop), Inv c σ ρ s.heap → Frm c Γ env pe ρ s.heap → evE initOf F ie env σ = some (v, σ') → Kont c s ρ σ' v Q →
      wpAny (model c.prog c.w) A (boolOp pos op (evalEach es pe)) Q E s
  | [], _, h, _, _, _, _, _, _, _, _, _ => zE h
  | [e], ie, h, s, σ, ρ, v, Q, I, Fm, ev, k => hE Γ nx e ie h A pe env s σ ρ v σ' Q E R I Fm ev k
  | e :: e' :: r, ie, h, s, σ, ρ, v, Q, I, Fm, ev, k => by
    revert h; refine bE fun a ha h => ?_
    revert h; refine bE fun b hb h => ?_
    first | obtain rfl := Option.some.inj h | cases h
    revert ev; refine bE fun p hp ev => ?_
    revert ev; refine bE fun t ht ev => ?_
    have ih : ∀ (s : Shared) (σ : AH) (ρ : Rho) (v : V) (Q : Value → Shared → Prop), Inv c σ ρ s.heap → Frm c Γ env pe ρ s.heap → evE initOf F b env σ = some (v, σ') → Kont c s ρ σ' v Q →
      wpAny (model c.prog c.w) A (boolOp pos op (evalEach (e' :: r) pe)) Q E s := fun s σ ρ v Q => bop_s hE R op and ho (e' :: r) b hb s σ ρ v Q
    show wpAny _ A (do
      let v ← eval e pe
      standAt pos
      let t ← holding [v] (truthy v)
      match op, t with
      | .And, false | .Or, true => pure v
      | _, _ => boolOp pos op (evalEach (e' :: r) pe)) Q E s
    refine wpAny_bind (hE Γ nx e a ha A pe env s σ ρ p.1 p.2 _ _ R I Fm hp fun u₁ ρ₁ h₁ t₁ x₁ I₁ r₁ => ?_)
    refine wpAny_bind (wpAny_standAt (wpAny_bind (wpAny_holding (truthV_s r₁ ht ?_))))
    cases op <;> cases t <;> subst ho <;> dsimp only at ev ⊢
    · cases ev; exact wpAny_pure (k _ _ _ _ x₁ I₁ r₁)
    · exact ih _ _ _ _ _ I₁ (Fm.ext x₁) ev (k.tail x₁ I₁)
    · exact ih _ _ _ _ _ I₁ (Fm.ext x₁) ev (k.tail x₁ I₁)
    · cases ev; exact wpAny_pure (k _ _ _ _ x₁ I₁ r₁)
theorem bopT_s (hT : ST c F d n) (R : Room A d) (op : BoolOp) (and : Bool) (ho : and = (op == .And)) : ∀ (es : List Expr) (it : IT), cBopT and (cT glb aidx n Γ nx) es = some it →
    ∀ (s : Shared) (σ : AH) (ρ : Rho) (b : Bool) (Q : Bool → Shared → Prop), Inv c σ ρ s.heap → Frm c Γ env pe ρ s.heap → evT initOf F it env σ = some (b, σ') → KontB c s ρ σ' b Q →
      wpAny (model c.prog c.w) A (allTrue op es pe) Q E s
  | [], _, h, _, _, _, _, _, _, _, _, _ => zE h
  | [e], it, h, s, σ, ρ, b, Q, I, Fm, ev, k => by
    show wpAny _ A (do match op, ← PySem.isTrue e pe (eval e pe) with
      | .And, false => pure false
      | .Or, true => pure true
      | _, _ => pure (op == .And)) Q E s
    refine wpAny_bind (hT Γ nx e it h A pe env s σ ρ b σ' _ _ R I Fm ev fun ρ₁ h₁ t₁ x₁ I₁ => ?_)
    cases op <;> cases b <;> exact wpAny_pure (k _ _ _ x₁ I₁)
  | e :: e' :: r, it, h, s, σ, ρ, b, Q, I, Fm, ev, k => by
    revert h; refine bE fun a ha h => ?_
    revert h; refine bE fun b' hb h => ?_
    first | obtain rfl := Option.some.inj h | cases h
    revert ev; refine bE fun p hp ev => ?_
    have ih : ∀ (s : Shared) (σ : AH) (ρ : Rho) (b : Bool) (Q : Bool → Shared → Prop), Inv c σ ρ s.heap → Frm c Γ env pe ρ s.heap → evT initOf F b' env σ = some (b, σ') → KontB c s ρ σ' b Q →
      wpAny (model c.prog c.w) A (allTrue op (e' :: r) pe) Q E s := fun s σ ρ b Q => bopT_s hT R op and ho (e' :: r) b' hb s σ ρ b Q
    show wpAny _ A (do match op, ← PySem.isTrue e pe (eval e pe) with
      | .And, false => pure false
      | .Or, true => pure true
      | _, _ => allTrue op (e' :: r) pe) Q E s
    refine wpAny_bind (hT Γ nx e a ha A pe env s σ ρ p.1 p.2 _ _ R I Fm hp fun ρ₁ h₁ t₁ x₁ I₁ => ?_)
    obtain ⟨p1, p2⟩ := p
    cases op <;> cases p1 <;> subst ho <;> dsimp only at ev ⊢
    · cases ev; exact wpAny_pure (k _ _ _ x₁ I₁)
    · exact ih _ _ _ _ _ I₁ (Fm.ext x₁) ev (k.tail x₁ I₁)
    · exact ih _ _ _ _ _ I₁ (Fm.ext x₁) ev (k.tail x₁ I₁)
    · cases ev; exact wpAny_pure (k _ _ _ x₁ I₁)
end
end Mine
namespace Mine
open PySem PySem.W PyProof.Rows PySem.Calls
section
variable {c : Ctx} {F : CFun} {d n : Nat} {Γ : CE} {nx : Nat} {env : LE} {pe : Env} {A : Around} {E : Value → Shared → Prop} {s : Shared} {σ σ' : AH} {ρ : Rho}
theorem callName {id : Str} {np pos : Pos} {es : List Expr} {f : Value} {Q : Value → Shared → Prop} (hn : ∀ (Q : Value → Shared → Prop), Q f s → wpAny (model c.prog c.w) A (eval (.Name id np) pe) Q E s)
    (hst : ∀ e ∈ es, isStarred e = false) (hk : ∀ h : Heap, c.K.In h → ∃ k, (k = Keeper.frame ∨ k = Keeper.machine ∨ k = Keeper.boundFrame) ∧ Looks (model c.prog c.w) h (keeperOf f) k)
    (h : wpAny (model c.prog c.w) A (spliced (es.map fun e => (false, eval e pe))) (fun us s₁ => c.K.In s₁.heap ∧ wpAny (model c.prog c.w) A (PySem.call f us) Q E s₁) E s) :
    wpAny (model c.prog c.w) A (eval (.Call (.Name id np) es [] pos) pe) Q E s := by
  show wpAny _ A (eval (.Name id np) pe >>= fun f => callWith pos f [] (backTo pos (starEach es pe)) []) Q E s
  exact wpAny_bind (hn _ (callW hst hk h))
theorem callMeth {o : Expr} {name : Str} {apos pos : Pos} {es : List Expr} {Q : Value → Shared → Prop} (hb : bareCall o = false) (hl : (apos.endLine == pos.line) = true) (hlen : es.length < 20)
    (hst : ∀ e ∈ es, isStarred e = false)
    (h : wpAny (model c.prog c.w) A (eval o pe) (fun ov s₁ => ∀ pl : Sem Bool, wpAny (model c.prog c.w) A (getMethod ov name pl) (fun fx s₂ => ∃ b, fx = (.builtin b, [ov]) ∧
      wpAny (model c.prog c.w) A (spliced (es.map fun e => (false, eval e pe))) (fun us s₃ => c.K.In s₃.heap ∧ wpAny (model c.prog c.w) A (PySem.call (.builtin b) (ov :: us)) Q E s₃) E s₂) E s₁) E s) :
    wpAny (model c.prog c.w) A (eval (.Call (.Attribute o name apos) es [] pos) pe) Q E s := by
  have hm : methodCallForm (es.length + 0) (backTo pos (starEach es pe)) (backToKw pos (keywordEach [] pe)) = true := by
    unfold methodCallForm
    rw [plain_args hst]
    simp [backToKw, keywordEach]
    lia
  show wpAny _ A (attributeBase o name pe (eval o pe) >>= fun ov => standAt apos.atName >>= fun _ => methodCall o name apos pos pe ov (es.length + 0) (backTo pos (starEach es pe)) (backToKw pos (keywordEach [] pe))) Q E s
  refine wpAny_bind (attrBase hb (wpAny_mono h (fun ov s₁ h₁ => wpAny_bind (wpAny_standAt ?_)) fun _ _ x => x))
  unfold methodCall calleeOf methodCallPos
  rw [hm]
  refine wpAny_bind (wpAny_holding ?_)
  refine wpAny_mono (h₁ _) (fun fx s₂ h₂ => ?_) fun _ _ x => x
  obtain ⟨b, rfl, h₂⟩ := h₂
  simp only [Bool.not_true, Bool.false_or, hl, if_true]
  exact wpAny_bind (wpAny_pure (callW hst (fun h _ => keeps_blt b h) h₂))
theorem sub_s {v sl : Expr} {o i : IE} {pos : Pos} {w : V} {Q : Value → Shared → Prop} (hE : SE c F d n) (R : Room A d) (h1 : cE glb aidx n Γ nx v = some o) (h2 : cE glb aidx n Γ nx sl = some i) (I : Inv c σ ρ s.heap) (Fm : Frm c Γ env pe ρ s.heap)
    (e : evE initOf F (.sub o i) env σ = some (w, σ')) (k : Kont c s ρ σ' w Q) : wpAny (model c.prog c.w) A (eval (.Subscript v sl pos) pe) Q E s := by
  revert e; refine bE fun p hp e => ?_
  revert e; refine bE fun q hq e => ?_
  revert e; refine mE fun x hx e => ?_
  cases e
  refine Subscript_ (hE Γ nx v o h1 A pe env s σ ρ p.1 p.2 _ _ R I Fm hp fun u₁ ρ₁ h₁ t₁ x₁ I₁ r₁ => ?_)
  refine hE Γ nx sl i h2 A pe env _ p.2 ρ₁ q.1 q.2 _ _ R I₁ (Fm.ext x₁) hq fun u₂ ρ₂ h₂ t₂ x₂ I₂ r₂ => ?_
  obtain ⟨g, T, id, hT, hl⟩ := subV_s (E := E) (A := A) I₂ (r₁.ext x₂) r₂ hx ((k.tail x₁ I₁).tail x₂ I₂)
  exact tailG hT hl g
end
end Mine
namespace Mine
open PySem PySem.W PyProof.Rows PySem.Calls
noncomputable def TR (o : Obj) : Prop := (o.cls = .type "tuple" ∨ o.cls = .type "range") ∧ ((∃ xs n, o.data = .seq xs n) ∨ ∃ fs, o.data = .fields fs)
structure Tr (h : Heap) (ρ : Rho) (h' : Heap) (ρ' : Rho) : Prop where
  idx : ∀ (i : Nat) (p : Addr × Addr), ρ[i]? = some p → ρ'[i]? = some p
  cell : ∀ b o, ¬ Trk ρ b → h.get? b = some o → TR o → h'.get? b = some o ∧ ¬ Trk ρ' b
section
variable {h h' : Heap} {ρ ρ' : Rho}
mutual
theorem VRep.tr (x : Tr h ρ h' ρ') : ∀ {v : V} {u : Value}, VRep h ρ v u → VRep h' ρ' v u
  | .none, _, r => by rw [noneRef r]; exact .none
  | .bool b, _, r => by rw [boolRef r]; exact .bool b
  | .int i, _, r => by obtain ⟨t, rfl⟩ := r.int_is; exact .int i t
  | .str y, _, r => by obtain ⟨t, rfl⟩ := r.str_is; exact .str y t
  | .obj _, _, r => by obtain ⟨p, e, rfl⟩ := objRef r; exact .obj (x.idx _ _ e)
  | .tup _, _, r => by
    obtain ⟨a, us, k, rfl, e, n, r⟩ := tupRef r
    have q := x.cell _ _ n e ⟨.inl rfl, .inl ⟨_, _, rfl⟩⟩
    exact .tup q.1 q.2 (VsRep.tr x r)
  | .range _ _ _, _, r => by
    obtain ⟨a, t1, t2, t3, rfl, e, n⟩ := rangeRef r
    have q := x.cell _ _ n e ⟨.inr rfl, .inr ⟨_, rfl⟩⟩
    exact .range q.1 q.2
theorem VsRep.tr (x : Tr h ρ h' ρ') : ∀ {v : List V} {u : List Value}, VsRep h ρ v u → VsRep h' ρ' v u
  | [], _, r => by rw [r.invN]; exact .nil
  | _ :: _, _, r => by obtain ⟨u, w, rfl, a, b⟩ := r.invC; exact .cons (VRep.tr x a) (VsRep.tr x b)
end
theorem FsRep.tr (x : Tr h ρ h' ρ') {fs : List (Nat × V)} {es : List DictEntry} (r : FsRep h ρ fs es) : FsRep h' ρ' fs es :=
  ⟨r.len, r.keys, r.small, fun a v e => let ⟨u, q, y⟩ := r.get a v e; ⟨u, q, y.tr x⟩⟩
theorem KvRep.tr (x : Tr h ρ h' ρ') {fs : List (Nat × V)} {kvs : List (Str × Value)} (r : KvRep h ρ fs kvs) : KvRep h' ρ' fs kvs :=
  ⟨r.len, r.small, fun a v e => let ⟨u, q, y⟩ := r.get a v e; ⟨u, q, y.tr x⟩⟩
theorem ORep.tr {c : Ctx} {p : Addr × Addr} {o : AO} (r : ORep c h ρ p o) (x : Tr h ρ h' ρ') (e1 : ∀ o, h.get? p.1 = some o → h'.get? p.1 = some o) (e2 : ∀ o, h.get? p.2 = some o → h'.get? p.2 = some o) : ORep c h' ρ' p o := by
  cases r with
  | list e r d => exact .list (e1 _ e) (r.tr x) d
  | inst l e d r n => exact .inst l (e1 _ e) (e2 _ d) (r.tr x) n
  | dict e r d => exact .dict (dictOf_at e e1) (r.tr x) d
theorem Inv.adopt {c : Ctx} {σ : AH} (I : Inv c σ ρ h) {a : Addr} {o₀ : Obj} {o : AO} (h0 : h.get? a = some o₀) (hn : ¬ Trk ρ a) (hg : c.g.get? a = none) (hc : ¬ TR o₀)
    (hs : Heap.SameBut a h h') (r : Tr h ρ h' (ρ ++ [(a, a)]) → ORep c h' (ρ ++ [(a, a)]) (a, a) o) : Inv c (σ ++ [o]) (ρ ++ [(a, a)]) h' ∧ Tr h ρ h' (ρ ++ [(a, a)]) := by
  have x : Tr h ρ h' (ρ ++ [(a, a)]) := by
    refine ⟨fun i p e => ?_, fun b o t e k => ?_⟩
    · rw [List.getElem?_append_left (List.getElem?_eq_some_iff.mp e).1]; exact e
    · have hb : b ≠ a := fun z => by
        subst z; rw [h0] at e; cases e
        exact hc k
      refine ⟨(hs.2 b hb).trans e, fun q => ?_⟩
      rcases Trk.app.mp q with q | ⟨p, hp, q⟩
      · exact t q
      · rw [List.mem_singleton.mp hp] at q
        exact hb (q.elim id id)
  have ne : ∀ {b : Addr}, Trk ρ b → b ≠ a := fun t z => hn (z ▸ t)
  refine ⟨⟨fun b o e => ?_, fun b t => ?_, by simp [I.len], ?_, ?_⟩, x⟩
  · have hb : b ≠ a := fun z => by rw [z, hg] at e; cases e
    exact (hs.2 b hb).trans (I.keep b o e)
  · rcases Trk.app.mp t with t | ⟨p, hp, q⟩
    · exact I.off b t
    · rw [List.mem_singleton.mp hp] at q
      have : b = a := q.elim id id
      rw [this]; exact hg
  · intro i o' p ho hp
    by_cases hi : i < σ.length
    · rw [List.getElem?_append_left hi] at ho
      rw [List.getElem?_append_left (by rw [I.len]; exact hi)] at hp
      exact (I.obj i o' p ho hp).tr x (fun o e => (hs.2 _ (ne (Trk.fst hp))).trans e) (fun o e => (hs.2 _ (ne (Trk.snd hp))).trans e)
    · have hi' : i = σ.length := by
        have := (List.getElem?_eq_some_iff.mp ho).1
        simp at this; lia
      subst hi'
      rw [List.getElem?_append_right (Nat.le_refl _)] at ho
      rw [List.getElem?_append_right (by rw [I.len]; exact Nat.le_refl _), I.len] at hp
      simp at ho hp
      subst ho; subst hp
      exact r x
  · intro i j p p' hp hp' hij
    have cases2 : ∀ {i : Nat} {p : Addr × Addr}, (ρ ++ [(a, a)])[i]? = some p → (ρ[i]? = some p ∧ i < ρ.length) ∨ (p = (a, a) ∧ i = ρ.length) := fun {i p} e => by
      by_cases hi : i < ρ.length
      · rw [List.getElem?_append_left hi] at e; exact .inl ⟨e, hi⟩
      · have := (List.getElem?_eq_some_iff.mp e).1
        simp at this
        have hi' : i = ρ.length := by lia
        subst hi'
        rw [List.getElem?_append_right (Nat.le_refl _)] at e
        simp at e
        exact .inr ⟨e.symm, rfl⟩
    rcases cases2 hp with ⟨b, la⟩ | ⟨rfl, la⟩ <;> rcases cases2 hp' with ⟨d, lb⟩ | ⟨rfl, lb⟩
    · exact I.sep i j p p' b d hij
    · exact ⟨ne (Trk.fst b), ne (Trk.fst b), ne (Trk.snd b), ne (Trk.snd b)⟩
    · exact ⟨(ne (Trk.fst d)).symm, (ne (Trk.snd d)).symm, (ne (Trk.fst d)).symm, (ne (Trk.snd d)).symm⟩
    · lia
theorem Ext.adopt {c : Ctx} {σ : AH} {h₀ : Heap} {ρ₀ : Rho} (I : Inv c σ ρ h) (x : Ext h₀ ρ₀ h ρ) {a : Addr} (h0 : h₀.get? a = none) (hs : Heap.SameBut a h h') : Ext h₀ ρ₀ h' (ρ ++ [(a, a)]) := by
  obtain ⟨n, rfl, hn⟩ := x.new
  refine ⟨⟨n ++ [(a, a)], by simp, fun p hp => ?_⟩, fun b o t e => ?_⟩
  · rcases List.mem_append.mp hp with q | q
    · exact hn p q
    · rw [List.mem_singleton.mp q]; exact ⟨h0, h0⟩
  · have hb : b ≠ a := fun z => by rw [z, h0] at e; cases e
    exact (hs.2 b hb).trans (x.keep b o t e)
end
section
variable {c : Ctx} {F : CFun} {d n : Nat} {Γ : CE} {nx : Nat} {env : LE} {pe : Env} {A : Around} {E : Value → Shared → Prop} {s : Shared} {σ σ' : AH} {ρ : Rho}
theorem dict_s (W : World c) (hE : SE c F d n) (R : Room A d) {x y : Str} {k1 k2 : Nat} {p1 p2 pos : Pos} {v w : Expr} {a b : Nat} {iv iw : IE} {r : V} {Q : Value → Shared → Prop}
    (hx : aidx.lookup x = some a) (hy : aidx.lookup y = some b) (hne : a ≠ b) (h1 : cE glb aidx n Γ nx v = some iv) (h2 : cE glb aidx n Γ nx w = some iw)
    (I : Inv c σ ρ s.heap) (Fm : Frm c Γ env pe ρ s.heap) (e : evE initOf F (.dict [a, b] (.cons iv (.cons iw .nil))) env σ = some (r, σ')) (k : Kont c s ρ σ' r Q) :
    wpAny (model c.prog c.w) A (eval (.Dict [some (.Constant (.str x) k1 p1), some (.Constant (.str y) k2 p2)] [v, w] pos) pe) Q E s := by
  revert e; refine bE fun q hq e => ?_
  revert hq; refine bE fun q1 hq1 hq => ?_
  revert hq; refine bE fun q2 hq2 hq => ?_
  revert hq2; refine bE fun q3 hq3 hq2 => ?_
  revert hq2; refine bE fun q4 hq4 hq2 => ?_
  cases (show some _ = some _ from hq4); cases hq2; cases hq
  revert e; refine iE fun _ e => ?_
  obtain ⟨rfl, rfl⟩ := Prod.mk.inj (Option.some.inj e)
  have hxy : x ≠ y := fun z => by subst z; rw [hx] at hy; cases hy; exact hne rfl
  have ax : anm a = x := (W.inj x a hx).2
  have ay : anm b = y := (W.inj y b hy).2
  refine wpAny_Dict_walk (knd := strKind c.prog c.w) rfl rfl (by simp) (by show 2 ≤ 15; decide) ?_
  have I0 := I.push { cls := .type "dict", data := .dict #[] }
  have x0 : Ext s.heap ρ (s.heap.push { cls := .type "dict", data := .dict #[] }) ρ := Ext.push _
  have d0 : (s.heap.push { cls := .type "dict", data := .dict #[] }).get? s.heap.objs.size = some { cls := .type "dict", data := .dict #[] } := Heap.get?_push_size _ rfl
  have n0 : ¬ Trk ρ s.heap.objs.size := I.fresh (get?_size _)
  refine evalPairs_cons (wpAny_Constant_str ?_)
  refine wpAny_bind (hE Γ nx v iv h1 A pe env _ σ ρ q1.1 q1.2 _ _ R I0 (Fm.ext x0) hq1 fun u₁ ρ₁ h₁ t₁ x₁ I₁ r₁ => wpAny_bind (wpAny_standAt (wpAny_pure ?_)))
  refine evalPairs_cons (wpAny_Constant_str ?_)
  refine wpAny_bind (hE Γ nx w iw h2 A pe env _ q1.2 ρ₁ q3.1 q3.2 _ _ R I₁ ((Fm.ext x0).ext x₁) hq3 fun u₂ ρ₂ h₂ t₂ x₂ I₂ r₂ => wpAny_bind (wpAny_standAt (wpAny_pure ?_)))
  refine evalPairs_nil ?_
  have d1 := x₁.keep _ _ n0 d0
  have n1 := x₁.off d0 n0
  have d2 := x₂.keep _ _ n1 d1
  have n2 := x₂.off d1 n1
  refine ⟨[(x, u₁), (y, u₂)], ⟨strKind_is _ _ _ _, rfl, strKind_is _ _ _ _, rfl, trivial⟩, ?_, fun h' hm' hs' => ?_⟩
  · exact (Heap.DictOf.new s.heap).at fun o e => by rw [d0] at e; cases e; exact d2
  · have hm : merged [] [(x, u₁), (y, u₂)] = [(x, u₁), (y, u₂)] := by simp [merged, stored, hxy]
    rw [hm] at hm'
    have hg : c.g.get? s.heap.objs.size = none := by
      cases z : c.g.get? s.heap.objs.size with
      | none => rfl
      | some o => have := I.keep _ o z; rw [get?_size] at this; cases this
    obtain ⟨I', tr⟩ := I₂.adopt (o := .dict [(a, q1.1), (b, q3.1)]) d2 n2 hg (by rintro ⟨q, -⟩; simp at q) hs' fun tr => by
      refine .dict hm' ⟨by show 2 ≤ 100; decide, fun k v' e => ?_, fun k v' e => ?_⟩ rfl
      · rcases getF2 e with ⟨rfl, _⟩ | ⟨rfl, _⟩
        · exact (W.inj x _ hx).1
        · exact (W.inj y _ hy).1
      rcases getF2 e with ⟨rfl, rfl⟩ | ⟨rfl, rfl⟩
      · refine ⟨u₁, ?_, (r₁.ext x₂).tr tr⟩
        rw [ax]; simp [valueAt]
      · refine ⟨u₂, ?_, r₂.tr tr⟩
        rw [ay]; simp [valueAt, hxy]
    have xx := Ext.adopt I₂ (x0.trans I0 (x₁.trans I₁ x₂)) (get?_size s.heap) hs'
    refine k _ _ _ _ xx I' (.obj (p := (s.heap.objs.size, s.heap.objs.size)) ?_)
    rw [← I₂.len]
    simp
theorem new_s {C : Nat} {vs : List V} {us : List Value} {q : V × AH} {Q : Value → Shared → Prop} (W : World c) (hC : C < 3) (hF : Sound c F d) (R : Room A d) (I : Inv c σ ρ s.heap) (r : VsRep s.heap ρ vs us)
    {fn : Fn} (hfn : tbl (initOf C) = some fn)
    (e : F (initOf C) (.obj σ.length :: vs) (σ ++ [.inst C []]) = some q) (hq : q.1 = .none) (k : Kont c s ρ q.2 (.obj σ.length) Q) : wpAny (model c.prog c.w) A (PySem.call (.ref (c.cls C)) us) Q E s := by
  have Cl := W.cls C hC
  obtain ⟨f, hf1, hf2, hf3⟩ := Cl.init
  refine wpAny_call ?_
  obtain ⟨hh, gg, dd, tt, oo⟩ := s
  refine make_core (makes_of I.inK Cl.makes) (looks_findIn I.inK hf1) (fun self => bind_fn I.inK self (by simpa [isFn] using hf2)) (.inl rfl) ?_
  have kk : ∀ b o, hh.get? b = some o → ((hh.push emptyDict).push (instObj (c.cls C) hh.objs.size)).get? b = some o := fun b o e => Heap.get?_push_of_some _ (Heap.get?_push_of_some _ e)
  have e1 : ((hh.push emptyDict).push (instObj (c.cls C) hh.objs.size)).get? (hh.objs.size + 1) = some (instObj (c.cls C) hh.objs.size) := by
    rw [← Heap.size_push (o := emptyDict)]; exact Heap.get?_push_size _ rfl
  have e2 : ((hh.push emptyDict).push (instObj (c.cls C) hh.objs.size)).get? hh.objs.size = some emptyDict := Heap.get?_push_of_some _ (Heap.get?_push_size _ rfl)
  have g1 : hh.get? (hh.objs.size + 1) = none := by
    cases z : hh.get? (hh.objs.size + 1) with
    | none => rfl
    | some o => exact absurd (Heap.lt_size z) (Nat.not_lt.mpr (Nat.le_succ _))
  obtain ⟨I', x'⟩ := Inv.alloc I (q := (hh.objs.size + 1, hh.objs.size)) (o := .inst C []) kk g1 (get?_size _)
    (.inst (es := []) (k := 0) hC e1 e2 ⟨Nat.le_refl _, fun _ h => (nomatch h), fun a v e => zE e, fun a v e => zE e⟩ (by simp))
  have hl : (ρ ++ [(hh.objs.size + 1, hh.objs.size)])[σ.length]? = some (hh.objs.size + 1, hh.objs.size) := by rw [← I.len]; simp
  refine hF (initOf C) _ _ q.1 q.2 e fn hfn f (hf3 fn hfn) _ _ (ρ ++ [(hh.objs.size + 1, hh.objs.size)]) _ ⟨?_, ?_, ?_⟩ I' (.cons (.obj hl) (r.ext x')) _ ?_
  · exact R.hand
  · have := R.depth
    show A.depth + 1 + 3 * d + 1 < recursionLimit
    lia
  · have := R.units
    have h1 : (Code.builtin "type.__call__" ⟨.ref (c.cls C) :: us, []⟩).cUnits ≤ 9 := by
      show 1 ≤ 9
      decide
    show A.units + (Code.builtin "type.__call__" ⟨.ref (c.cls C) :: us, []⟩).cUnits + 20 * d + 110 < cLine
    lia
  · intro u ρ' h' tk x I'' ru
    rw [hq] at ru
    obtain rfl := noneRef ru
    exact ⟨rfl, k _ _ _ _ (x'.trans I' x) I'' (.obj (x.get hl))⟩
end
end Mine
namespace Mine
open PySem PySem.W PyProof.Rows PySem.Calls
noncomputable def But (a : Addr) (h h' : Heap) : Prop := ∀ b o, b ≠ a → h.get? b = some o → h'.get? b = some o
theorem But.of {a : Addr} {h h' : Heap} (s : Heap.SameBut a h h') : But a h h' := fun b _ hb e => (s.2 b hb).trans e
theorem But.refl (a : Addr) (h : Heap) : But a h h := fun _ _ _ e => e
noncomputable def NotT (h : Heap) (a : Addr) : Prop := ∀ o, h.get? a = some o → ¬ TR o
theorem NotT.ns {h : Heap} {a : Addr} {m : Str → Option Value} (n : h.Ns a m) : NotT h a := fun o e => by
  obtain ⟨o', es, ep, e', hd, _⟩ := n
  rw [e] at e'; cases e'
  rintro ⟨-, ⟨_, _, q⟩ | ⟨_, q⟩⟩ <;> rw [hd] at q <;> cases q
theorem NotT.cell {h : Heap} {a : Addr} {v : Option Value} (n : h.IsCell a v) : NotT h a := fun o e => by
  obtain ⟨o', e', hd⟩ := n
  rw [e] at e'; cases e'
  rintro ⟨-, ⟨_, _, q⟩ | ⟨_, q⟩⟩ <;> rw [hd] at q <;> cases q
theorem NotT.list {h : Heap} {a : Addr} {us : List Value} {k : Nat} (n : h.get? a = some (lstObj us k)) : NotT h a := fun o e => by
  rw [e] at n; cases n
  rintro ⟨q, -⟩; simp at q
section
variable {c : Ctx} {σ : AH} {h h' h₀ : Heap} {ρ ρ₀ : Rho}
theorem Tr.touch {a : Addr} (n : NotT h a) (k : But a h h') : Tr h ρ h' ρ :=
  ⟨fun _ _ e => e, fun b o t e q => ⟨k b o (fun z => n o (z ▸ e) q) e, t⟩⟩
theorem Inv.touch (I : Inv c σ ρ h) {a : Addr} (n : NotT h a) (t : ¬ Trk ρ a) (g : c.g.get? a = none) (k : But a h h') : Inv c σ ρ h' := by
  have ne : ∀ {b : Addr}, Trk ρ b → b ≠ a := fun q z => t (z ▸ q)
  refine ⟨fun b o e => k b o (fun z => by rw [z, g] at e; cases e) (I.keep b o e), I.off, I.len, fun i o p ho hp => ?_, I.sep⟩
  exact (I.obj i o p ho hp).tr (Tr.touch n k) (fun o e => k _ o (ne (Trk.fst hp)) e) (fun o e => k _ o (ne (Trk.snd hp)) e)
theorem Ext.touch (x : Ext h₀ ρ₀ h ρ) {a : Addr} (g : h₀.get? a = none) (k : But a h h') : Ext h₀ ρ₀ h' ρ :=
  ⟨x.new, fun b o t e => k b o (fun z => by rw [z, g] at e; cases e) (x.keep b o t e)⟩
theorem Ext.fresh (x : Ext h₀ ρ₀ h ρ) {a : Addr} (e : h.get? a = none) (I : Inv c σ ρ h) (t : h₀.get? a ≠ none) : False := by
  cases q : h₀.get? a with
  | none => exact t q
  | some o =>
    by_cases t' : Trk ρ₀ a
    · exact I.fresh e (x.trk t')
    · rw [x.keep a o t' q] at e; cases e
noncomputable def ItSt (h : Heap) (ρ : Rho) (I : Addr) (i : Nat) : V → Prop
  | .obj n => ∃ p, ρ[n]? = some p ∧ h.IsListIter I p.1 i
  | .tup vs => ∃ a us k, h.get? a = some (tupObj us k) ∧ ¬ Trk ρ a ∧ VsRep h ρ vs us ∧ h.IsTupleIter I a i
  | .str x => ∃ t, h.IsStrIter I "str_ascii_iterator" ⟨x.toArray⟩ t i
  | .range a b d => IsRangeIter h I (a + (i : Nat) * d) ((rangeN a b d : Int) - (i : Nat)) d
  | _ => False
theorem ItSt.obj {I : Addr} {i : Nat} {o : V} (s : ItSt h ρ I i o) : (∃ x, h.get? I = some x) ∧ NotT h I := by
  cases o with
  | obj n =>
    obtain ⟨p, _, x, e, hc, _⟩ := s
    exact ⟨⟨x, e⟩, fun y q => by rw [e] at q; cases q; rintro ⟨q, -⟩; rw [hc] at q; simp at q⟩
  | tup vs =>
    obtain ⟨_, _, _, _, _, _, x, e, hc, _⟩ := s
    exact ⟨⟨x, e⟩, fun y q => by rw [e] at q; cases q; rintro ⟨q, -⟩; rw [hc] at q; simp at q⟩
  | str x =>
    obtain ⟨t, x, e, hc, _⟩ := s
    exact ⟨⟨x, e⟩, fun y q => by rw [e] at q; cases q; rintro ⟨q, -⟩; rw [hc] at q; simp at q⟩
  | range a b d =>
    have e : h.get? I = some _ := s
    exact ⟨⟨_, e⟩, fun y q => by rw [e] at q; cases q; rintro ⟨q, -⟩; simp at q⟩
  | _ => exact s.elim
theorem ItSt.ext {I : Addr} {i : Nat} {o : V} {ρ' : Rho} (x : Ext h ρ h' ρ') (t : ¬ Trk ρ I) (s : ItSt h ρ I i o) : ItSt h' ρ' I i o := by
  cases o with
  | obj n => obtain ⟨p, e1, o, e, r⟩ := s; exact ⟨p, x.get e1, o, x.keep _ _ t e, r⟩
  | tup vs => obtain ⟨a, us, k, e1, e2, e3, o, e, r⟩ := s; exact ⟨a, us, k, x.keep _ _ e2 e1, x.off e1 e2, e3.ext x, o, x.keep _ _ t e, r⟩
  | str y => obtain ⟨u, o, e, r⟩ := s; exact ⟨u, o, x.keep _ _ t e, r⟩
  | range a b d => exact x.keep _ _ t s
  | _ => exact s.elim
theorem ItSt.touch {I a : Addr} {i : Nat} {o : V} (n : NotT h a) (k : But a h h') (ne : I ≠ a) (s : ItSt h ρ I i o) : ItSt h' ρ I i o := by
  cases o with
  | obj m => obtain ⟨p, e1, o, e, r⟩ := s; exact ⟨p, e1, o, k _ _ ne e, r⟩
  | tup vs =>
    obtain ⟨b, us, kk, e1, e2, e3, o, e, r⟩ := s
    have := (Tr.touch n k).cell b _ e2 e1 ⟨.inl rfl, .inl ⟨_, _, rfl⟩⟩
    exact ⟨b, us, kk, this.1, this.2, e3.tr (Tr.touch n k), o, k _ _ ne e, r⟩
  | str y => obtain ⟨u, o, e, r⟩ := s; exact ⟨u, o, k _ _ ne e, r⟩
  | range x b d => exact k _ _ ne s
  | _ => exact s.elim
end
theorem rangeSize_is {a b d : Int} (h : d = 1 ∨ d = -1) : Builtin.Range.rangeSize a b d = (rangeN a b d : Int) := by
  unfold Builtin.Range.rangeSize rangeN
  rcases h with rfl | rfl
  · rw [if_pos (by decide : (1 : Int) > 0), if_pos rfl, Int.ediv_one]
    split <;> lia
  · rw [if_neg (by decide : ¬ (-1 : Int) > 0), if_neg (by decide : ¬ (-1 : Int) = 1), Int.neg_neg, Int.ediv_one]
    split <;> lia
theorem fitsL {x : Int} (h : -10000000 ≤ x ∧ x ≤ 10000000) : Builtin.Range.rangeFitsLong x = true := and_i (decide_eq_true (by lia)) (decide_eq_true (by lia))
theorem bnd20 {x : Int} (h : x.natAbs < 2 ^ 20) : -1048576 ≤ x ∧ x ≤ 1048576 := ⟨by lia, by lia⟩
theorem rangeOk_is {a b d : Int} (h : rangeOk a b d = true) : (d = 1 ∨ d = -1) ∧ Builtin.Range.small a b d = true := by
  have h1 := bnd20 (of_decide_eq_true (and_l (and_l h)))
  have h2 := bnd20 (of_decide_eq_true (and_r (and_l h)))
  have h3 : d = 1 ∨ d = -1 := of_decide_eq_true (and_r h)
  refine ⟨h3, ?_⟩
  have hn : (rangeN a b d : Int) ≤ 10000000 := by
    delta rangeN
    split <;> lia
  have e1 := fitsL (x := a) ⟨by lia, by lia⟩
  have e2 := fitsL (x := b) ⟨by lia, by lia⟩
  have e3 := fitsL (x := (rangeN a b d : Int)) ⟨by lia, hn⟩
  have hs := rangeSize_is (a := a) (b := b) h3
  delta Builtin.Range.small
  rw [hs, e1, e2, e3]
  rcases h3 with rfl | rfl
  · rw [if_pos (by decide), fitsL (x := b + (1 - 1)) ⟨by lia, by lia⟩, Bool.or_true]; rfl
  · rw [if_neg (by decide), fitsL (x := b + (-1 + 1)) ⟨by lia, by lia⟩, Bool.or_true]; rfl
section
variable {c : Ctx} {A : Around} {E : Value → Shared → Prop} {s : Shared} {σ : AH} {ρ : Rho}
theorem iter_s {o : V} {u : Value} {n : Nat} {Q : Value → Shared → Prop} (I : Inv c σ ρ s.heap) (r : VRep s.heap ρ o u) (e : lenIt o σ = some n)
    (k : ∀ x, ItSt (s.heap.push x) ρ s.heap.objs.size 0 o → Q (.ref s.heap.objs.size) { s with heap := s.heap.push x }) : wpAny (model c.prog c.w) A (pyIter u) Q E s := by
  cases o with
  | obj m =>
    revert e; refine mE fun vs e1 _ => ?_
    obtain ⟨p, us, kn, hp, ho, rr, _⟩ := listAt_at I e1
    obtain ⟨_, a1, rfl⟩ := objRef r
    obtain rfl := Option.some.inj (hp.symm.trans a1)
    exact wpAny_pyIter_list (lst_isList ho) (k _ ⟨p, hp, _, Heap.get?_push_size _ rfl, rfl, rfl⟩)
  | tup vs =>
    obtain ⟨_, _, _, rfl, ho, hn, rr⟩ := tupRef r
    exact wpAny_pyIter_tuple ⟨_, ho, rfl, _, rfl⟩ (k _ ⟨_, _, _, Heap.get?_push_of_some _ ho, hn, rr.ext (Ext.push _), _, Heap.get?_push_size _ rfl, rfl, rfl⟩)
  | str x =>
    obtain ⟨t, rfl⟩ := strRef r
    revert e; refine iE fun ha _ => ?_
    exact wpAny_pyIter_ascii (by simpa [asciiL] using ha) (k _ ⟨t, _, Heap.get?_push_size _ rfl, rfl, rfl⟩)
  | range a b d =>
    revert e; refine iE fun hr _ => ?_
    obtain ⟨hd, hsm⟩ := rangeOk_is hr
    obtain ⟨_, _, _, _, rfl, he, hn⟩ := rangeRef r
    refine wpAny_pyIter_range he hsm (k _ ?_)
    show IsRangeIter _ _ _ _ _
    rw [rangeSize_is hd]
    simpa using Heap.get?_push_size s.heap (o := { cls := .type "range_iterator", data := .fields #[rawInt a, rawInt (rangeN a b d : Int), rawInt d] }) rfl
  | _ => exact zE e
theorem self_s {o : V} {I : Addr} {i : Nat} {Q : Value → Shared → Prop} (st : ItSt s.heap ρ I i o) (k : Q (.ref I) s) : wpAny (model c.prog c.w) A (pyIter (.ref I)) Q E s := by
  cases o with
  | obj n => obtain ⟨_, _, h⟩ := st; exact wpAny_pyIter_listiter h k
  | tup vs => obtain ⟨_, _, _, _, _, _, h⟩ := st; exact wpAny_pyIter_tupleiter h k
  | str x => obtain ⟨_, h⟩ := st; exact wpAny_pyIter_striter_ascii h k
  | range a b d => exact wpAny_pyIter_rangeiter st k
  | _ => exact st.elim
theorem next_s {o : V} {I : Addr} {i : Nat} {r : Option V} {Q : Option Value → Shared → Prop} (hh : A.handled = none) (Iv : Inv c σ ρ s.heap) (st : ItSt s.heap ρ I i o) (t : ¬ Trk ρ I) (e : itemAt o i σ = some r)
    (k : ∀ v, r = some v → ∀ u h' tk, VRep h' ρ v u → ItSt h' ρ I (i + 1) o → But I s.heap h' → Q (some u) { s with heap := h', toks := tk })
    (k0 : r = none → ∀ h' tk, But I s.heap h' → Q none { s with heap := h', toks := tk }) : wpAny (model c.prog c.w) A (pyNext (.ref I)) Q E s := by
  have nt := st.obj.2
  cases o with
  | obj n =>
    obtain ⟨p, hp, hit⟩ := st
    obtain ⟨vs, e1, e2⟩ := Option.map_eq_some_iff.mp e
    obtain ⟨p', us, kn, hp', ho, rr, _⟩ := listAt_at Iv e1
    obtain rfl := Option.some.inj (hp.symm.trans hp')
    cases r with
    | none =>
      have hnone : us.toArray[i]? = none := by
        have := List.getElem?_eq_none_iff.mp e2
        rw [rr.length] at this
        simpa using this
      exact wpAny_pyNext_list_end hh hit (lst_isList ho) hnone fun h' he => k0 rfl h' s.toks fun b o hb e => he b o hb e
    | some v =>
      obtain ⟨u, hu, ru⟩ := rr.get e2
      exact wpAny_pyNext_list_item hit (lst_isList ho) (by simpa using hu) fun h' hit' hs => k v rfl u h' s.toks (ru.tr (Tr.touch nt (But.of hs))) ⟨p, hp, hit'⟩ (But.of hs)
  | tup vs =>
    obtain ⟨a, us, kk, ha, hn, rr, hit⟩ := st
    have e2 : vs[i]? = r := Option.some.inj e
    have ht : s.heap.IsTuple a us.toArray := ⟨_, ha, rfl, _, rfl⟩
    cases r with
    | none =>
      have hnone : us.toArray[i]? = none := by
        have := List.getElem?_eq_none_iff.mp e2
        rw [rr.length] at this
        simpa using this
      exact wpAny_pyNext_tuple_end hh hit ht hnone fun h' he => k0 rfl h' s.toks fun b o hb e => he b o hb e
    | some v =>
      obtain ⟨u, hu, ru⟩ := rr.get e2
      refine wpAny_pyNext_tuple_item hit ht (by simpa using hu) fun h' hit' hs => ?_
      have tr := Tr.touch (ρ := ρ) nt (But.of hs)
      have := tr.cell a _ hn ha ⟨.inl rfl, .inl ⟨_, _, rfl⟩⟩
      exact k v rfl u h' s.toks (ru.tr tr) ⟨a, us, kk, this.1, this.2, rr.tr tr, hit'⟩ (But.of hs)
  | str x =>
    obtain ⟨tt, hit⟩ := st
    revert e; refine iE fun _ e => ?_
    obtain rfl := Option.some.inj e
    cases q : x[i]? with
    | none => exact wpAny_pyNext_ascii_end hh hit (by simpa using q) fun h' he => k0 (by rw [q]; rfl) h' s.toks fun b o hb e => he b o hb e
    | some d => exact wpAny_pyNext_ascii_item (c := d) hit (by simpa using q) fun h' hit' hs => k (.str [d]) (by rw [q]; rfl) _ h' _ (.str [d] _) ⟨tt, hit'⟩ (But.of hs)
  | range a b d =>
    revert e; refine iE fun hr e => ?_
    obtain rfl := Option.some.inj e
    · have st' : IsRangeIter s.heap I _ _ _ := st
      by_cases hi : i < rangeN a b d
      · refine wpAny_pyNext_range_item st' (by lia) fun h' hit' hs => ?_
        refine k _ (by rw [if_pos hi]) _ h' _ (.int _ _) ?_ (But.of hs)
        have e1 : a + ((i + 1 : Nat) : Int) * d = a + (i : Int) * d + d := by push_cast; rw [Int.add_mul, Int.one_mul, Int.add_assoc]
        have e2 : (rangeN a b d : Int) - ((i + 1 : Nat) : Int) = (rangeN a b d : Int) - (i : Int) - 1 := by push_cast; lia
        show IsRangeIter _ _ _ _ _
        rw [e1, e2]; exact hit'
      · exact wpAny_pyNext_range_end hh st' (by lia) fun h' he => k0 (by rw [if_neg hi]) h' s.toks fun b o hb e => he b o hb e
  | _ => exact st.elim
end
end Mine
namespace Mine
open PySem PySem.W PyProof.Rows PySem.Calls
section
variable {c : Ctx} {F : CFun} {d n : Nat} {Γ Γ' : CE} {nx : Nat} {env : LE} {pe : Env} {A : Around} {E : Value → Shared → Prop} {s : Shared} {σ σ' : AH} {ρ : Rho}
theorem relK_lookup (y : Str) : ∀ names : List (Str × NameKind), (relK Γ names).lookup y = (names.lookup y).map fun k => if (k == .free && Γ.kinds.lookup y == some .cell) then .cell else k
  | [] => rfl
  | (m, k) :: r => by
    have ih := relK_lookup y r
    show List.lookup y ((if (k == .free && Γ.kinds.lookup m == some .cell) = true then (m, .cell) else (m, k)) :: relK Γ r) = _
    rw [List.lookup_cons (as := r)]
    cases q : y == m with
    | true =>
      have : y = m := by simpa using q
      subst this
      by_cases hc : (k == .free && Γ.kinds.lookup y == some .cell) = true
      · rw [if_pos hc, List.lookup_cons]; simp only [q, Option.map_some, if_pos hc]
      · rw [if_neg hc, List.lookup_cons]; simp only [q, Option.map_some, if_neg hc]
    | false =>
      by_cases hc : (k == .free && Γ.kinds.lookup m == some .cell) = true
      · rw [if_pos hc, List.lookup_cons]; simp only [q]; exact ih
      · rw [if_neg hc, List.lookup_cons]; simp only [q]; exact ih
theorem relabel_is (Fm : Frm c Γ env pe ρ s.heap) (sc : Scope) : (relabel sc pe).names = relK Γ sc.names := by
  unfold relabel relK
  dsimp only
  refine List.map_congr_left fun x _ => ?_
  rw [Fm.kind, Fm.kindOf]
  simp
theorem seenV_free {Γ : CE} {m : Str} {r : List (Str × NameKind)} {l : List (Str × Nat)} (h : seenV Γ ((m, .free) :: r) = some l) :
    (Γ.kinds.lookup m = some .cell ∨ Γ.kinds.lookup m = some .free) ∧ ((Γ.vars.lookup m).bind fun k => (seenV Γ r).bind fun l => some ((m, k) :: l)) = some l := by
  have h : (match Γ.kinds.lookup m with
    | some .cell | some .free => (Γ.vars.lookup m).bind fun k => (seenV Γ r).bind fun l => some ((m, k) :: l)
    | _ => none) = some l := h
  revert h
  cases Γ.kinds.lookup m with
  | none => exact fun h => zE h
  | some q => cases q with
    | cell => exact fun h => ⟨.inl rfl, h⟩
    | free => exact fun h => ⟨.inr rfl, h⟩
    | _ => exact fun h => zE h
theorem seenV_is {y : Str} {k : Nat} : ∀ {names : List (Str × NameKind)} {l : List (Str × Nat)}, seenV Γ names = some l → l.lookup y = some k → (y, .free) ∈ names ∧ Γ.vars.lookup y = some k ∧ (Γ.kinds.lookup y = some .cell ∨ Γ.kinds.lookup y = some .free)
  | [], l, h, e => by cases h; cases e
  | (m, kd) :: r, l, h, e => by
    have other : seenV Γ r = some l → (y, NameKind.free) ∈ (m, kd) :: r ∧ Γ.vars.lookup y = some k ∧ (Γ.kinds.lookup y = some .cell ∨ Γ.kinds.lookup y = some .free) := fun h => by
      obtain ⟨a, b⟩ := seenV_is h e
      exact ⟨List.mem_cons_of_mem _ a, b⟩
    have free : ∀ l', (Γ.kinds.lookup m = some .cell ∨ Γ.kinds.lookup m = some .free) → ((Γ.vars.lookup m).bind fun k => (seenV Γ r).bind fun l => some ((m, k) :: l)) = some l' → l'.lookup y = some k → (y, NameKind.free) ∈ (m, NameKind.free) :: r ∧ Γ.vars.lookup y = some k ∧ (Γ.kinds.lookup y = some .cell ∨ Γ.kinds.lookup y = some .free) := fun l' hk h e => by
      revert h; refine bE fun k' h1 h => ?_
      revert h; refine bE fun l2 h2 h => ?_
      first | obtain rfl := Option.some.inj h | cases h
      rw [List.lookup_cons] at e
      cases q : y == m with
      | true =>
        have : y = m := by simpa using q
        subst this
        rw [q] at e; cases e
        exact ⟨List.mem_cons_self .., h1, hk⟩
      | false =>
        rw [q] at e
        obtain ⟨a, b⟩ := seenV_is h2 e
        exact ⟨List.mem_cons_of_mem _ a, b⟩
    cases kd with
    | free =>
      obtain ⟨hq, h⟩ := seenV_free h
      exact free l hq h e
    | _ => exact other h
theorem closure_is (Fm : Frm c Γ env pe ρ s.heap) : ∀ {names : List (Str × NameKind)} {l : List (Str × Nat)} (acc : List (Str × Addr)), seenV Γ names = some l →
    ∃ cl, (forIn names acc (fun (x : Str × NameKind) cs => (if x.2 == .free then (do let a ← cellOf pe x.1; pure (ForInStep.yield ((x.1, a) :: cs))) else pure (ForInStep.yield cs) : Sem (ForInStep (List (Str × Addr)))))) = pure cl ∧
      (∀ p ∈ cl, p ∈ acc ∨ pe.cells.lookup p.1 = some p.2) ∧ (∀ p ∈ acc, p ∈ cl) ∧ ∀ y k, l.lookup y = some k → ∃ a, (y, a) ∈ cl
  | [], l, acc, h => by
    cases h
    exact ⟨acc, rfl, fun p hp => .inl hp, fun p hp => hp, fun y k e => by cases e⟩
  | (m, kd) :: r, l, acc, h => by
    have skip : kd ≠ .free → seenV Γ r = some l → ∃ cl, (forIn ((m, kd) :: r) acc (fun (x : Str × NameKind) cs => (if x.2 == .free then (do let a ← cellOf pe x.1; pure (ForInStep.yield ((x.1, a) :: cs))) else pure (ForInStep.yield cs) : Sem (ForInStep (List (Str × Addr)))))) = pure cl ∧
      (∀ p ∈ cl, p ∈ acc ∨ pe.cells.lookup p.1 = some p.2) ∧ (∀ p ∈ acc, p ∈ cl) ∧ ∀ y k, l.lookup y = some k → ∃ a, (y, a) ∈ cl := fun hk h => by
      obtain ⟨cl, e, q⟩ := closure_is Fm acc h
      refine ⟨cl, ?_, q⟩
      rw [List.forIn_cons]
      have : (kd == NameKind.free) = false := by simpa using hk
      simp only [this, Bool.false_eq_true, if_false, pure_bind]
      exact e
    have take : ∀ l', (Γ.kinds.lookup m = some .cell ∨ Γ.kinds.lookup m = some .free) → ((Γ.vars.lookup m).bind fun k => (seenV Γ r).bind fun l => some ((m, k) :: l)) = some l' → ∃ cl, (forIn ((m, NameKind.free) :: r) acc (fun (x : Str × NameKind) cs => (if x.2 == .free then (do let a ← cellOf pe x.1; pure (ForInStep.yield ((x.1, a) :: cs))) else pure (ForInStep.yield cs) : Sem (ForInStep (List (Str × Addr)))))) = pure cl ∧
      (∀ p ∈ cl, p ∈ acc ∨ pe.cells.lookup p.1 = some p.2) ∧ (∀ p ∈ acc, p ∈ cl) ∧ ∀ y k, l'.lookup y = some k → ∃ a, (y, a) ∈ cl := fun l' hk h => by
      revert h; refine bE fun k' h1 h => ?_
      revert h; refine bE fun l2 h2 h => ?_
      first | obtain rfl := Option.some.inj h | cases h
      obtain ⟨a, _, ha, _⟩ := Fm.cell m k' h1 hk
      obtain ⟨cl, e, q1, q2, q3⟩ := closure_is Fm ((m, a) :: acc) h2
      refine ⟨cl, ?_, fun p hp => ?_, fun p hp => q2 p (List.mem_cons_of_mem _ hp), fun y k e => ?_⟩
      · rw [List.forIn_cons]
        have : cellOf pe m = pure a := by unfold cellOf; rw [ha]
        simp only [beq_self_eq_true, if_true, this, pure_bind]
        exact e
      · rcases q1 p hp with z | z
        · rcases List.mem_cons.mp z with rfl | z
          · exact .inr ha
          · exact .inl z
        · exact .inr z
      · rw [List.lookup_cons] at e
        cases q : y == m with
        | true =>
          have : y = m := by simpa using q
          subst this
          exact ⟨a, q2 _ (List.mem_cons_self ..)⟩
        | false => rw [q] at e; exact q3 y k e
    cases kd with
    | free =>
      obtain ⟨hq, h⟩ := seenV_free h
      exact take l hq h
    | _ => exact skip (fun z => nomatch z) h
theorem lookup_of_mem {α : Type} {y : Str} {a : α} : ∀ {l : List (Str × α)}, (y, a) ∈ l → ∃ b, l.lookup y = some b
  | [], h => nomatch h
  | (m, v) :: r, h => by
    rw [List.lookup_cons]
    cases q : y == m with
    | true => exact ⟨v, rfl⟩
    | false =>
      rcases List.mem_cons.mp h with z | z
      · cases z; simp at q
      · exact lookup_of_mem z
theorem closureFor_is (Fm : Frm c Γ env pe ρ s.heap) {sc : Scope} {l : List (Str × Nat)} (h : seenV Γ sc.names = some l) :
    ∃ cl, closureFor sc pe = pure cl ∧ ∀ y k, l.lookup y = some k → ∃ a, cl.lookup y = some a ∧ pe.cells.lookup y = some a := by
  obtain ⟨cl, e, q1, _, q3⟩ := closure_is Fm (names := sc.names) [] h
  refine ⟨cl, ?_, fun y k hy => ?_⟩
  · unfold closureFor
    show (forIn sc.names [] _ >>= pure) = _
    rw [bind_pure, ← e]
  · obtain ⟨a, ha⟩ := q3 y k hy
    obtain ⟨b, hb⟩ := lookup_of_mem ha
    have := mem_of_lookup hb
    rcases q1 _ this with z | z
    · cases z
    · exact ⟨b, hb, z⟩
theorem cellsFrom_filter : ∀ (names : List (Str × NameKind)) (k : Nat) (acc : List (Str × Addr)), cellsFrom k names acc = cellsFrom k (names.filter fun y => y.2 == .cell) acc
  | [], _, _ => rfl
  | (m, kd) :: r, k, acc => by
    cases q : kd == NameKind.cell with
    | true => simp only [List.filter_cons, q, if_true, cellsFrom]; exact cellsFrom_filter r _ _
    | false => simp only [List.filter_cons, q, cellsFrom]; exact cellsFrom_filter r _ _
theorem pushCells_filter : ∀ (names : List (Str × NameKind)) (h : Heap), pushCells h names = pushCells h (names.filter fun y => y.2 == .cell)
  | [], _ => rfl
  | (m, kd) :: r, h => by
    cases q : kd == NameKind.cell with
    | true => simp only [List.filter_cons, q, if_true, pushCells]; exact pushCells_filter r _
    | false => simp only [List.filter_cons, q, pushCells]; exact pushCells_filter r _
theorem newEnv_s {scope : Scope} {cl : List (Str × Addr)} {Q : Env → Shared → Prop}
    (h : Q { scope := scope, locals := s.heap.objs.size, globals := pe.globals, cells := cellsFrom (s.heap.objs.size + 1) scope.names cl, qual := pe.qual, func := none, code := pe.code, frame := pe.frame, builtins := pe.builtins }
      { s with heap := pushCells (s.heap.push { cls := .type "dict", data := .dict #[] }) scope.names }) :
    wpAny (model c.prog c.w) A (newFunctionEnv scope pe.globals cl [] pe.qual none .none (some pe)) Q E s := by
  simp only [newFunctionEnv, Option.isSome_some, if_true]
  refine wpAny_bind (wpAny_alloc ?_)
  refine wpAny_bind (wpAny_layCells _ (fun name kind cells => by cases hkc : kind == NameKind.cell <;> simp) _ _ _ _ ?_)
  rw [show ({ s with heap := s.heap.push { cls := .type "dict", data := .dict #[] } } : Shared).heap.objs.size = s.heap.objs.size + 1 from Heap.size_push ..]
  exact wpAny_bind (wpAny_pure (wpAny_pure h))
theorem tests_false {cenv : Env} {Q : Bool → Shared → Prop} (h : Q false s) : ∀ ifs : List Expr,
    wpAny (model c.prog c.w) A (forIn ifs false fun e r => if r = true then do let ok ← isTrue e cenv (eval e cenv); pure (ForInStep.yield ok) else pure (ForInStep.yield r)) Q E s
  | [] => wpAny_pure h
  | e :: r => by
    rw [List.forIn_cons]
    simp only [Bool.false_eq_true, if_false]
    exact wpAny_bind (wpAny_pure (tests_false h r))
theorem tests_s (hT : ST c F d n) (R : Room A d) {cenv : Env} : ∀ (ifs : List Expr) (its : ITs), cTests (cT glb aidx n Γ nx) ifs = some its → ∀ (s : Shared) (σ : AH) (ρ : Rho) (b : Bool) (Q : Bool → Shared → Prop), Inv c σ ρ s.heap → Frm c Γ env cenv ρ s.heap →
    evI initOf F its env σ = some (b, σ') → KontB c s ρ σ' b Q → wpAny (model c.prog c.w) A (forIn ifs true fun e r => if r = true then do let ok ← isTrue e cenv (eval e cenv); pure (ForInStep.yield ok) else pure (ForInStep.yield r)) Q E s
  | [], its, h, s, σ, ρ, b, Q, I, Fm, ev, k => by
    cases h
    cases (show some _ = some _ from ev)
    exact wpAny_pure (k ρ s.heap s.toks (Ext.refl _ _) I)
  | e :: r, its, h, s, σ, ρ, b, Q, I, Fm, ev, k => by
    revert h; refine bE fun a ha h => ?_
    revert h; refine bE fun it hit h => ?_
    have ih := fun (s : Shared) (σ : AH) (ρ : Rho) (b : Bool) (Q : Bool → Shared → Prop) => tests_s (cenv := cenv) hT R r it hit s σ ρ b Q
    cases h
    revert ev; refine bE2 fun b1 s1 hp ev => ?_
    rw [List.forIn_cons]
    simp only [if_true]
    refine wpAny_bind (wpAny_bind (hT Γ nx e a ha A cenv env s σ ρ b1 s1 _ _ R I Fm hp fun ρ₁ h₁ t₁ x₁ I₁ => wpAny_pure ?_))
    cases b1 with
    | true => exact ih _ _ ρ₁ _ _ I₁ (Fm.ext x₁) ev (k.tail x₁ I₁)
    | false => cases ev; exact tests_false (k _ _ _ x₁ I₁) r
end
end Mine
namespace Mine
open PySem PySem.W PyProof.Rows PySem.Calls
section
variable {c : Ctx} {F : CFun} {d n : Nat} {Γ Γ' : CE} {nx : Nat} {env : LE} {pe : Env} {A : Around} {E : Value → Shared → Prop} {s : Shared} {σ σ' : AH} {ρ : Rho}
structure CompOf (Γ Γ' : CE) (names : List (Str × NameKind)) (x : Str) (nx : Nat) : Prop where
  kind : names.lookup x = some .local ∨ names.lookup x = some .cell
  all : ∀ y ∈ names, names.lookup y.1 = some y.2
  loc : ∀ y ∈ names, y.2 = .local → y.1 = x ∨ y.1 = dot0
  glob : ∀ y ∈ names, y.2 ≠ .globalExplicit
  dot : x ≠ dot0
  cells : ((names.filter fun y => y.2 == .cell).map (·.1)) = (if names.lookup x == some .cell then [x] else [])
  seen : ∃ l, seenV Γ names = some l ∧ Γ' = ⟨(x, nx) :: l, relK Γ names⟩ ∧ ∀ y ∈ l, y.2 ≠ nx ∧ y.1 ≠ x
theorem ite_some {α : Type} {p : Prop} [Decidable p] {a : Option α} {b : α} (h : (if p then a else none) = some b) : p ∧ a = some b := by
  by_cases q : p
  · rw [if_pos q] at h; exact ⟨q, h⟩
  · rw [if_neg q] at h; cases h
theorem compOf {names : List (Str × NameKind)} {x : Str} (h : compCE Γ names x nx = some Γ') : CompOf Γ Γ' names x nx := by
  have key : (if (names.all fun y => names.lookup y.1 == some y.2 && y.2 != .globalExplicit && (y.2 != .local || y.1 == x || y.1 == dot0)) = true ∧ x ≠ dot0 ∧
      ((names.filter fun y => y.2 == .cell).map (·.1)) = (if names.lookup x == some .cell then [x] else []) then
      (seenV Γ names).bind fun l => if (l.all fun y => y.2 != nx && y.1 != x) = true then some (⟨(x, nx) :: l, relK Γ names⟩ : CE) else none else none) = some Γ' → (names.lookup x = some .local ∨ names.lookup x = some .cell) → CompOf Γ Γ' names x nx := by
    intro h hk
    obtain ⟨⟨q1, q2, q3⟩, h⟩ := ite_some h
    revert h; refine bE fun l hl h => ?_
    obtain ⟨ql, h⟩ := ite_some h
    cases h
    have q1' := List.all_eq_true.mp q1
    refine ⟨hk, fun y hy => ?_, fun y hy e => ?_, fun y hy => ?_, q2, q3, l, hl, rfl, fun y hy => ?_⟩
    · have := q1' y hy; simp only [Bool.and_eq_true, beq_iff_eq] at this; exact this.1.1
    · have := q1' y hy; simp only [Bool.and_eq_true, Bool.or_eq_true, bne_iff_ne, ne_eq, beq_iff_eq] at this
      rcases this.2 with (z | z) | z
      · exact absurd e z
      · exact .inl z
      · exact .inr z
    · have := q1' y hy; simp only [Bool.and_eq_true, bne_iff_ne, ne_eq] at this; exact this.1.2
    · have := List.all_eq_true.mp ql y hy; simpa using this
  unfold compCE at h
  split at h
  · rename_i q; exact key h (.inl q)
  · rename_i q; exact key h (.inr q)
  · cases h
theorem frm_comp {h : Heap} {ρ₁ : Rho} {names : List (Str × NameKind)} {x : Str} {cenv : Env} {cl : List (Str × Addr)} {v : V} {u : Value} (K : CompOf Γ Γ' names x nx) (Fm : Frm c Γ env pe ρ s.heap) (X : Ext s.heap ρ h ρ₁)
    (hk : cenv.scope.kind = .function) (hn : cenv.scope.names = relK Γ names) (hg : cenv.globals = pe.globals) (hb : cenv.builtins = pe.builtins) (hC : s.heap.get? cenv.locals = none) (tC : ¬ Trk ρ₁ cenv.locals)
    (hcl : ∀ l, seenV Γ names = some l → ∀ y k, l.lookup y = some k → ∃ a, cl.lookup y = some a ∧ pe.cells.lookup y = some a)
    (hce : ∀ y, y ≠ x → cenv.cells.lookup y = cl.lookup y)
    {m : Str → Option Value} (hm : h.Ns cenv.locals m) (ru : VRep h ρ₁ v u)
    (hx : (names.lookup x = some .local → m x = some u) ∧ (names.lookup x = some .cell → ∃ a, cenv.cells.lookup x = some a ∧ ¬ Trk ρ₁ a ∧ a ≠ cenv.locals ∧ h.IsCell a (some u))) :
    Frm c Γ' (env.set nx (some v)) cenv ρ₁ h := by
  obtain ⟨l, hl, rfl, hne⟩ := K.seen
  have fm := Fm.ext X
  have hv : ∀ v', (env.set nx (some v))[nx]?.join = some v' → v' = v := fun v' e => by
    by_cases hlt : nx < env.length
    · rw [List.getElem?_set_self hlt] at e; simpa using e.symm
    · rw [List.getElem?_eq_none (by rw [List.length_set]; lia)] at e; cases e
  refine ⟨hk, hn, hg.trans Fm.glob, hb.trans Fm.blt, tC, ⟨m, hm, fun y k v' hy hkd e => ?_⟩, fun y k hy hkd => ?_⟩
  · rw [List.lookup_cons] at hy
    cases q : y == x with
    | true =>
      rw [q] at hy; cases hy
      have : y = x := by simpa using q
      subst this
      rw [hv v' e]
      refine ⟨u, hx.1 ?_, ru⟩
      rcases K.kind with z | z
      · exact z
      · exfalso
        have hkd' : (relK Γ names).lookup y = some .local := hkd
        rw [relK_lookup, z] at hkd'
        simp at hkd'
    | false =>
      rw [q] at hy
      obtain ⟨a, _⟩ := seenV_is hl hy
      have z := K.all _ a
      have hkd' : (relK Γ names).lookup y = some .local := hkd
      rw [relK_lookup, z] at hkd'
      simp only [Option.map_some, Option.some.injEq] at hkd'
      split at hkd' <;> cases hkd'
  · rw [List.lookup_cons] at hy
    cases q : y == x with
    | true =>
      rw [q] at hy; cases hy
      have : y = x := by simpa using q
      subst this
      have hc : names.lookup y = some .cell := by
        rcases K.kind with z | z
        · exfalso
          have hkd' : (relK Γ names).lookup y = some .cell ∨ (relK Γ names).lookup y = some .free := hkd
          rw [relK_lookup, z] at hkd'
          simp at hkd'
        · exact z
      obtain ⟨a, b1, b2, b3, b4⟩ := hx.2 hc
      exact ⟨a, some u, b1, b2, b3, b4, fun v' e => ⟨u, rfl, by rw [hv v' e]; exact ru⟩⟩
    | false =>
      rw [q] at hy
      obtain ⟨a, b1, b2⟩ := seenV_is hl hy
      obtain ⟨a1, a2, a3⟩ := hcl l hl y k hy
      obtain ⟨a', w, e1, e2, e3, e4, e5⟩ := fm.cell y k b1 b2
      rw [a3] at e1; cases e1
      have hyx : y ≠ x := by simpa using q
      have hk' : k ≠ nx := by
        have := mem_of_lookup hy
        exact (hne _ this).1
      obtain ⟨a0, w0, z1, z2, z3, ⟨z4, z5, _⟩, _⟩ := Fm.cell y k b1 b2
      rw [a3] at z1; cases z1
      refine ⟨a1, w, (hce y hyx).trans a2, e2, fun z => ?_, e4, fun v' e => ?_⟩
      · rw [z, hC] at z5; cases z5
      · rw [List.getElem?_set_ne (Ne.symm hk')] at e
        exact e5 v' e
end
end Mine
namespace Mine
open PySem PySem.W PyProof.Rows PySem.Calls
structure Own (c : Ctx) (h₀ : Heap) (a : Addr) : Prop where
  new : h₀.get? a = none
  off : c.g.get? a = none
structure Fx (c : Ctx) (h₀ : Heap) (names : List (Str × NameKind)) (x : Str) (cenv : Env) (I D : Addr) : Prop where
  i : Own c h₀ I
  d : Own c h₀ D
  c' : Own c h₀ cenv.locals
  id : I ≠ D
  ic : I ≠ cenv.locals
  dc : D ≠ cenv.locals
  cell : names.lookup x = some .cell → ∃ a, cenv.cells.lookup x = some a ∧ Own c h₀ a ∧ a ≠ I ∧ a ≠ D ∧ a ≠ cenv.locals
structure Lp (c : Ctx) (h₀ : Heap) (ρ₀ : Rho) (names : List (Str × NameKind)) (x : Str) (cenv : Env) (I D : Addr) (o : V) (h : Heap) (ρ : Rho) (σ : AH) (i : Nat) (acc : List V) : Prop where
  inv : Inv c σ ρ h
  ext : Ext h₀ ρ₀ h ρ
  it : ItSt h ρ I i o
  tI : ¬ Trk ρ I
  dl : ∃ us, h.get? D = some (lstObj us us.length) ∧ VsRep h ρ acc us
  tD : ¬ Trk ρ D
  ns : ∃ m, h.Ns cenv.locals m
  tC : ¬ Trk ρ cenv.locals
  cell : names.lookup x = some .cell → ∀ a, cenv.cells.lookup x = some a → ¬ Trk ρ a ∧ ∃ w, h.IsCell a w
section
variable {c : Ctx} {h₀ : Heap} {ρ₀ : Rho} {names : List (Str × NameKind)} {x : Str} {cenv : Env} {I D : Addr} {o : V} {h h' : Heap} {ρ ρ' : Rho} {σ σ' : AH} {i : Nat} {acc : List V}
theorem Lp.go (L : Lp c h₀ ρ₀ names x cenv I D o h ρ σ i acc) (X : Ext h ρ h' ρ') (Iv : Inv c σ' ρ' h') : Lp c h₀ ρ₀ names x cenv I D o h' ρ' σ' i acc := by
  obtain ⟨us, e, r⟩ := L.dl
  obtain ⟨m, hm⟩ := L.ns
  have hm' := hm
  obtain ⟨oC, _, _, eC, _⟩ := hm'
  refine ⟨Iv, L.ext.trans L.inv X, L.it.ext X L.tI, ?_, ⟨us, X.keep _ _ L.tD e, r.ext X⟩, X.off e L.tD, ⟨m, hm.at' fun o e => X.keep _ o L.tC e⟩, X.off eC L.tC, fun k a ha => ?_⟩
  · obtain ⟨oI, eI⟩ := L.it.obj.1
    exact X.off eI L.tI
  · obtain ⟨t, w, oc, e1, e2⟩ := L.cell k a ha
    exact ⟨X.off e1 t, w, oc, X.keep _ _ t e1, e2⟩
theorem Lp.step (Fc : Fx c h₀ names x cenv I D) (L : Lp c h₀ ρ₀ names x cenv I D o h ρ σ i acc) (k : But I h h') (st : ItSt h' ρ I (i + 1) o) : Lp c h₀ ρ₀ names x cenv I D o h' ρ σ (i + 1) acc := by
  obtain ⟨us, e, r⟩ := L.dl
  obtain ⟨m, hm⟩ := L.ns
  have nt := L.it.obj.2
  refine ⟨L.inv.touch nt L.tI Fc.i.off k, L.ext.touch Fc.i.new k, st, L.tI, ⟨us, k _ _ Fc.id.symm e, r.tr (Tr.touch nt k)⟩, L.tD, ⟨m, hm.at' fun o e => k _ o Fc.ic.symm e⟩, L.tC, fun hk a ha => ?_⟩
  obtain ⟨t, w, oc, e1, e2⟩ := L.cell hk a ha
  obtain ⟨a', ha', _, n1, _⟩ := Fc.cell hk
  rw [ha] at ha'; cases ha'
  exact ⟨t, w, oc, k _ _ n1 e1, e2⟩
theorem Lp.grow (Fc : Fx c h₀ names x cenv I D) (L : Lp c h₀ ρ₀ names x cenv I D o h ρ σ i acc) (k : But D h h') {us : List Value} (e : h'.get? D = some (lstObj us us.length)) {acc' : List V} (r : VsRep h' ρ acc' us) :
    Lp c h₀ ρ₀ names x cenv I D o h' ρ σ i acc' := by
  obtain ⟨us0, e0, _⟩ := L.dl
  obtain ⟨m, hm⟩ := L.ns
  have nt := NotT.list e0
  refine ⟨L.inv.touch nt L.tD Fc.d.off k, L.ext.touch Fc.d.new k, L.it.touch nt k Fc.id, L.tI, ⟨us, e, r⟩, L.tD, ⟨m, hm.at' fun o e => k _ o Fc.dc.symm e⟩, L.tC, fun hk a ha => ?_⟩
  obtain ⟨t, w, oc, e1, e2⟩ := L.cell hk a ha
  obtain ⟨a', ha', _, _, n1, _⟩ := Fc.cell hk
  rw [ha] at ha'; cases ha'
  exact ⟨t, w, oc, k _ _ n1 e1, e2⟩
theorem Lp.bind {A : Around} {E : Value → Shared → Prop} {s : Shared} {u : Value} {v : V} {px : Pos} {Q : Unit → Shared → Prop} (Fc : Fx c h₀ names x cenv I D) (L : Lp c h₀ ρ₀ names x cenv I D o s.heap ρ σ i acc)
    (hk : cenv.scope.kind = .function) (hkd : (names.lookup x = some .local ∧ cenv.kindOf x = some .local) ∨ (names.lookup x = some .cell ∧ cenv.kindOf x = some .cell)) (ru : VRep s.heap ρ v u)
    (q : ∀ h' tk m, Lp c h₀ ρ₀ names x cenv I D o h' ρ σ i acc → h'.Ns cenv.locals m → VRep h' ρ v u → (names.lookup x = some .local → m x = some u) →
      (names.lookup x = some .cell → ∃ a, cenv.cells.lookup x = some a ∧ ¬ Trk ρ a ∧ a ≠ cenv.locals ∧ h'.IsCell a (some u)) → Q () { s with heap := h', toks := tk }) :
    wpAny (model c.prog c.w) A (assign (.Name x px) cenv u) Q E s := by
  obtain ⟨us, e, r⟩ := L.dl
  obtain ⟨m, hm⟩ := L.ns
  rcases hkd with ⟨k1, k2⟩ | ⟨k1, k2⟩
  · refine wpAny_assign_Name (wpAny_storeName_local k2 hm (fun h' hn hs => ?_) (by rw [hk]; rfl))
    have nt := NotT.ns hm
    have k := But.of hs
    refine q h' _ _ ⟨L.inv.touch nt L.tC Fc.c'.off k, L.ext.touch Fc.c'.new k, L.it.touch nt k Fc.ic, L.tI, ⟨us, k _ _ Fc.dc e, r.tr (Tr.touch nt k)⟩, L.tD, ⟨_, hn⟩, L.tC, fun hk' => ?_⟩ hn (ru.tr (Tr.touch nt k)) (fun _ => by simp) (fun hk' => ?_)
    · rw [k1] at hk'; cases hk'
    · rw [k1] at hk'; cases hk'
  · obtain ⟨a, ha, oa, n1, n2, n3⟩ := Fc.cell k1
    obtain ⟨t, w, hc⟩ := L.cell k1 a ha
    refine wpAny_assign_Name (wpAny_storeName_cell hk k2 ha hc fun h' hv hs => ?_)
    have nt := NotT.cell hc
    have k := But.of hs
    refine q h' s.toks _ ⟨L.inv.touch nt t oa.off k, L.ext.touch oa.new k, L.it.touch nt k n1.symm, L.tI, ⟨us, k _ _ n2.symm e, r.tr (Tr.touch nt k)⟩, L.tD, ⟨_, hm.at' fun o e => k _ o n3.symm e⟩, L.tC, fun _ a' ha' => ?_⟩ (hm.at' fun o e => k _ o n3.symm e) (ru.tr (Tr.touch nt k)) (fun hk' => ?_) (fun _ => ⟨a, ha, t, n3, hv⟩)
    · rw [ha] at ha'; cases ha'; exact ⟨t, _, hv⟩
    · rw [k1] at hk'; cases hk'
end
section
variable {c : Ctx} {F : CFun} {d n : Nat} {Γ Γ' : CE} {nx : Nat} {env : LE} {pe : Env} {A : Around} {E : Value → Shared → Prop} {s : Shared} {σ σ' : AH} {ρ : Rho}
inductive CompSt (c : Ctx) (F : CFun) (h₀ : Heap) (ρ₀ : Rho) (names : List (Str × NameKind)) (x : Str) (cenv : Env) (I D : Addr) (o : V) (nx : Nat) (iifs : ITs) (ielt : IE) (env : LE) (σ₂ : AH) (total : List V) (s : Shared) : Nat → Shared → Prop
  | mk {f : Nat} {h' : Heap} {tk : Nat} {ρ₁ : Rho} {σ₁ : AH} {i : Nat} {acc rest : List V} (L : Lp c h₀ ρ₀ names x cenv I D o h' ρ₁ σ₁ i acc)
      (ev : compN nx (fun env σ => evI initOf F iifs env σ) (fun env σ => evE initOf F ielt env σ) o f i env σ₁ = some (rest, σ₂)) (hacc : acc ++ rest = total) : CompSt c F h₀ ρ₀ names x cenv I D o nx iifs ielt env σ₂ total s f { s with heap := h', toks := tk }
theorem comp_loop (hE : SE c F d n) (hT : ST c F d n) (R : Room A d) {elt iter : Expr} {x : Str} {px pos : Pos} {ifs : List Expr} {scope : Scope} {ielt : IE} {iifs : ITs} {o : V} {I D : Addr} {cenv : Env} {cl : List (Str × Addr)} {RR : Result → Shared → Prop}
    (K : CompOf Γ Γ' scope.names x nx) (h2 : cTests (cT glb aidx n Γ' (nx + 1)) ifs = some iifs) (h3 : cE glb aidx n Γ' (nx + 1) elt = some ielt)
    (Fm : Frm c Γ env pe ρ s.heap) (Fc : Fx c s.heap scope.names x cenv I D)
    (hk : cenv.scope.kind = .function) (hn : cenv.scope.names = relK Γ scope.names) (hg : cenv.globals = pe.globals) (hb : cenv.builtins = pe.builtins)
    (hcl : ∀ l, seenV Γ scope.names = some l → ∀ y k, l.lookup y = some k → ∃ a, cl.lookup y = some a ∧ pe.cells.lookup y = some a) (hce : ∀ y, y ≠ x → cenv.cells.lookup y = cl.lookup y)
    {total : List V} {σ₂ : AH} (hlen : total.length ≤ lineL)
    (fin : ∀ h' ρ' tk i us, Inv c σ₂ ρ' h' → Ext s.heap ρ h' ρ' → h'.get? D = some (lstObj us us.length) → VsRep h' ρ' total us → ¬ Trk ρ' D → (∃ m, h'.Ns cenv.locals m) → ¬ Trk ρ' cenv.locals → (i : Nat) = i → RR (.ok .next) { s with heap := h', toks := tk })
    (f : Nat) {s₁ : Shared} (h : CompSt c F s.heap ρ scope.names x cenv I D o nx iifs ielt env σ₂ total s f s₁) :
    codeAny (model c.prog c.w) A (.compLoop (.ListComp elt [⟨.Name x px, iter, ifs, 0⟩] scope pos) 0 (.ref I) (.ref D) cenv) RR s₁ := by
  have hkd : (scope.names.lookup x = some .local ∧ cenv.kindOf x = some .local) ∨ (scope.names.lookup x = some .cell ∧ cenv.kindOf x = some .cell) := by
    unfold Env.kindOf
    rw [hn, relK_lookup]
    rcases K.kind with z | z
    · exact .inl ⟨z, by rw [z]; rfl⟩
    · exact .inr ⟨z, by rw [z]; rfl⟩
  refine codeAny_compLoop_tests (CompSt c F s.heap ρ scope.names x cenv I D o nx iifs ielt env σ₂ total s) ?_ f h
  rintro f _ ⟨L, ev, hacc⟩
  rename_i h' tk ρ₁ σ₁ i acc rest
  cases f with
  | zero => cases ev
  | succ f =>
  revert ev; refine bE fun r hr ev => ?_
  refine next_s R.hand L.inv L.it L.tI hr (fun v hv u h2' tk2 ru st2 but => ?_) (fun hnone h2' tk2 but => ?_)
  · subst hv
    dsimp only at ev
    revert ev; refine bE2 fun b1 s1 hp ev => ?_
    refine Lp.bind (s := { s with heap := h2', toks := tk2 }) Fc (L.step Fc but st2) hk hkd ru fun h3' tk3 m L3 hm ru3 b1' b2' => ?_
    have Fm3 : Frm c Γ' (env.set nx (some v)) cenv ρ₁ h3' := frm_comp K Fm L3.ext hk hn hg hb Fc.c'.new L3.tC hcl hce hm ru3 ⟨b1', b2'⟩
    refine tests_s hT R ifs iifs h2 _ σ₁ ρ₁ b1 _ L3.inv Fm3 hp fun ρ₄ h₄ t₄ x₄ I₄ => ?_
    cases b1 with
    | false =>
      dsimp only at ev
      exact ⟨f, Nat.lt_succ_self _, L3.go x₄ I₄, ev, hacc⟩
    | true =>
      dsimp only at ev
      revert ev; refine bE fun q hq ev => ?_
      revert ev; refine bE fun l hl ev => ?_
      first | obtain rfl := Option.some.inj ev | cases ev
      refine hE Γ' (nx + 1) elt ielt h3 A cenv _ _ s1 ρ₄ q.1 q.2 _ _ R I₄ (Fm3.ext x₄) hq fun u5 ρ₅ h₅ t₅ x₅ I₅ r₅ => ?_
      have L5 := (L3.go x₄ I₄).go x₅ I₅
      obtain ⟨us, e, rs⟩ := L5.dl
      have hll := rs.length
      have hle : acc.length ≤ total.length := by rw [← hacc, List.length_append]; lia
      unfold lineL at hlen
      refine append_at e (fun h₆ hs e6 => ?_) (by rw [List.size_toArray, sizeLine_is]; lia)
      have e6' : h₆.get? D = some (lstObj (us ++ [u5]) (us ++ [u5]).length) := by rw [e6]; simp
      have tr := Tr.touch (ρ := ρ₅) (NotT.list e) (But.of hs)
      exact ⟨f, Nat.lt_succ_self _, L5.grow Fc (But.of hs) e6' ((rs.tr tr).append (.cons (r₅.tr tr) .nil)), hl, by rw [List.append_assoc]; exact hacc⟩
  · subst hnone
    dsimp only at ev
    cases ev
    have nt := L.it.obj.2
    obtain ⟨us, e, r⟩ := L.dl
    obtain ⟨m, hm⟩ := L.ns
    rw [List.append_nil] at hacc
    subst hacc
    exact fin h2' ρ₁ tk2 i us (L.inv.touch nt L.tI Fc.i.off but) (L.ext.touch Fc.i.new but) (but _ _ Fc.id.symm e) (r.tr (Tr.touch nt but)) L.tD ⟨m, hm.at' fun o e => but _ o Fc.ic.symm e⟩ L.tC rfl
end
end Mine
namespace Mine
open PySem PySem.W PyProof.Rows PySem.Calls
section
variable {c : Ctx} {F : CFun} {d n : Nat} {Γ Γ' : CE} {nx : Nat} {env : LE} {pe : Env} {A : Around} {E : Value → Shared → Prop} {s : Shared} {σ σ' : AH} {ρ : Rho}
theorem noSet {e : Expr} {ie : IE} (h : cE glb aidx n Γ nx e = some ie) (x : Value) : foldedSetIterable e pe x = pure x := by
  cases n with
  | zero => exact zE h
  | succ n => cases e <;> first | rfl | exact zE h
theorem comp_core (hE : SE c F d n) (hT : ST c F d n) (R : Room A d)
    {elt iter : Expr} {x : Str} {xp pos pos' : Pos} {ifs : List Expr} {sc : Scope} {isrc ielt : IE} {iifs : ITs} {v : V} {use : Option (Value → Sem Unit)} {Q : Value → Shared → Prop}
    (hk : sc.kind = .function) (hc : compCE Γ sc.names x nx = some Γ') (h1 : cE glb aidx n Γ nx iter = some isrc) (h2 : cTests (cT glb aidx n Γ' (nx + 1)) ifs = some iifs) (h3 : cE glb aidx n Γ' (nx + 1) elt = some ielt)
    (I : Inv c σ ρ s.heap) (Fm : Frm c Γ env pe ρ s.heap) (e : evE initOf F (.comp nx isrc iifs ielt) env σ = some (v, σ'))
    (k : ∀ D C ρ' h' tk, Inv c σ' ρ' h' → Ext s.heap ρ h' ρ' → VRep h' ρ' v (.ref D) → (∃ m, h'.Ns C m) → ¬ Trk ρ' C → c.g.get? C = none → s.heap.get? C = none →
      compPost (model c.prog c.w) A E use Q (.ref D) C (.ok .next) { s with heap := h', toks := tk }) :
    wpAny (model c.prog c.w) A (comprehension (.ListComp elt [⟨.Name x xp, iter, ifs, 0⟩] sc pos) sc pe pos' (newList []) false (eval iter pe) use) Q E s := by
  have K := compOf hc
  obtain ⟨l, hl, hΓ, hne⟩ := K.seen
  obtain ⟨cl, hclos, hcl⟩ := closureFor_is Fm hl
  revert e; refine bE fun p hp e => ?_
  revert e; refine bE fun cnt hcnt e => ?_
  obtain ⟨hcl', e⟩ := ite_some e
  revert e; refine bE fun q hq e => ?_
  obtain ⟨hlen, e⟩ := ite_some e
  cases e
  refine wpAny_comprehension_free (g := ⟨.Name x xp, iter, ifs, 0⟩) (gs := []) (cl := cl) rfl (fun x => noSet h1 x) hclos hk (fun y hy e => by have := K.all y hy; rw [e] at this; exact this) ?_
  refine hE Γ nx iter isrc h1 A pe env s σ ρ p.1 p.2 _ _ R I Fm hp fun u₁ ρ₁ h₁ t₁ x₁ I₁ r₁ => ?_
  refine iter_s I₁ r₁ hcnt fun xo st => ?_
  refine wpAny_newObj_type (newEnv_s ?_) (by show (0 : Nat) ≤ sizeLine; exact Nat.zero_le _)
  dsimp only at st ⊢
  have s1 : (h₁.push xo).objs.size = h₁.objs.size + 1 := Heap.size_push ..
  have s2 : ((h₁.push xo).push { cls := .type "list", data := .seq ([] : List Value).toArray }).objs.size = h₁.objs.size + 2 := by rw [Heap.size_push, s1]
  have s3 : (((h₁.push xo).push { cls := .type "list", data := .seq ([] : List Value).toArray }).push { cls := .type "dict", data := .dict #[] }).objs.size = h₁.objs.size + 3 := by rw [Heap.size_push, s2]
  have nw : ∀ a, h₁.objs.size ≤ a → Own c h₁ a := fun a ha => by
    have e1 : h₁.get? a = none := by
      cases z : h₁.get? a with
      | none => rfl
      | some o => exact absurd (Heap.lt_size z) (Nat.not_lt.mpr ha)
    refine ⟨e1, ?_⟩
    cases z : c.g.get? a with
    | none => rfl
    | some o => have := I₁.keep a o z; rw [e1] at this; cases this
  have tn : ∀ a, h₁.objs.size ≤ a → ¬ Trk ρ₁ a := fun a ha => I₁.fresh (nw a ha).new
  rw [s2, s1]
  generalize hH3 : ((h₁.push xo).push { cls := .type "list", data := .seq ([] : List Value).toArray }).push { cls := .type "dict", data := .dict #[] } = H3 at *
  have up3 : ∀ b o, (h₁.push xo).get? b = some o → H3.get? b = some o := fun b o e => by rw [← hH3]; exact Heap.get?_push_of_some _ (Heap.get?_push_of_some _ e)
  have upH : ∀ b o, H3.get? b = some o → (pushCells H3 sc.names).get? b = some o := fun b o e => pushCells_keeps _ _ b o e
  have dH3 : H3.get? (h₁.objs.size + 1) = some (lstObj [] 0) := by rw [← hH3, ← s1]; exact Heap.get?_push_of_some _ (Heap.get?_push_size _ rfl)
  have cH3 : H3.Ns (h₁.objs.size + 2) (fun _ => none) := by rw [← hH3, ← s2]; exact Heap.Ns.new _ _
  have up : ∀ b o, h₁.get? b = some o → (pushCells H3 sc.names).get? b = some o := fun b o e => upH b o (up3 b o (Heap.get?_push_of_some _ e))
  have cells : (sc.names.lookup x = some .local → cellsFrom (h₁.objs.size + 2 + 1) sc.names cl = cl) ∧
      (sc.names.lookup x = some .cell → cellsFrom (h₁.objs.size + 2 + 1) sc.names cl = (x, h₁.objs.size + 3) :: cl ∧ (pushCells H3 sc.names).IsCell (h₁.objs.size + 3) none) := by
    have hcs := K.cells
    refine ⟨fun z => ?_, fun z => ?_⟩
    · rw [z] at hcs
      have : sc.names.filter (fun y => y.2 == .cell) = [] := by simpa using hcs
      rw [cellsFrom_filter, this]; rfl
    · rw [z] at hcs
      simp only [beq_self_eq_true, if_true] at hcs
      obtain ⟨y, hy, hx⟩ : ∃ y, sc.names.filter (fun y => y.2 == .cell) = [y] ∧ y.1 = x := by
        cases w : sc.names.filter (fun y => y.2 == NameKind.cell) with
        | nil => rw [w] at hcs; cases hcs
        | cons y r =>
          rw [w] at hcs
          cases r with
          | nil => exact ⟨y, rfl, by simpa using hcs⟩
          | cons => simp at hcs
      have hyc : y.2 = .cell := by
        have : y ∈ sc.names.filter (fun y => y.2 == NameKind.cell) := by rw [hy]; exact List.mem_cons_self ..
        simpa using (List.mem_filter.mp this).2
      rw [cellsFrom_filter, pushCells_filter, hy]
      obtain ⟨y1, y2⟩ := y
      dsimp only at hx hyc
      subst hx; subst hyc
      refine ⟨rfl, ?_⟩
      have e0 : pushCells H3 [(y1, NameKind.cell)] = H3.push { cls := .type "cell", data := .cell none } := rfl
      rw [e0, ← s3]
      exact ⟨_, Heap.get?_push_size _ rfl, rfl⟩
  generalize hcells : cellsFrom (h₁.objs.size + 2 + 1) sc.names cl = CS at *
  generalize hcenv : ({ scope := relabel sc pe, locals := h₁.objs.size + 2, globals := pe.globals, cells := CS, qual := pe.qual, func := none, code := pe.code, frame := pe.frame, builtins := pe.builtins } : Env) = cenv
  have hcenv' : cenv.locals = h₁.objs.size + 2 ∧ cenv.cells = CS ∧ cenv.scope = relabel sc pe ∧ cenv.globals = pe.globals ∧ cenv.builtins = pe.builtins := by rw [← hcenv]; exact ⟨rfl, rfl, rfl, rfl, rfl⟩
  obtain ⟨c1, c2, c3, c4, c5⟩ := hcenv'
  have Fm₁ := Fm.ext x₁
  have hcell : sc.names.lookup x = some .cell → cenv.cells.lookup x = some (h₁.objs.size + 3) := fun z => by
    rw [c2, (cells.2 z).1]; simp
  have Fc : Fx c h₁ sc.names x cenv h₁.objs.size (h₁.objs.size + 1) := by
    refine ⟨nw _ (Nat.le_refl _), nw _ (by lia), ?_, ?_, ?_, ?_, fun z => ⟨_, hcell z, nw _ (by lia), ?_, ?_, ?_⟩⟩
    · rw [c1]; exact nw _ (by lia)
    · exact Nat.ne_of_lt (Nat.lt_succ_self _)
    · rw [c1]; exact Nat.ne_of_lt (by lia)
    · rw [c1]; exact Nat.ne_of_lt (by lia)
    · exact Nat.ne_of_gt (by lia)
    · exact Nat.ne_of_gt (by lia)
    · rw [c1]; exact Nat.ne_of_gt (by lia)
  have hce : ∀ y, y ≠ x → cenv.cells.lookup y = cl.lookup y := fun y hy => by
    rw [c2]
    rcases K.kind with z | z
    · rw [cells.1 z]
    · rw [(cells.2 z).1, List.lookup_cons]
      have : (y == x) = false := by simpa using hy
      rw [this]
  have L0 : Lp c h₁ ρ₁ sc.names x cenv h₁.objs.size (h₁.objs.size + 1) p.1 (pushCells H3 sc.names) ρ₁ p.2 0 [] := by
    refine ⟨I₁.all up, Ext.all up, st.ext (Ext.all fun b o e => upH b o (up3 b o e)) (tn _ (Nat.le_refl _)), tn _ (Nat.le_refl _), ⟨[], upH _ _ dH3, .nil⟩, tn _ (by lia), ⟨fun _ => none, ?_⟩, ?_, fun z a ha => ?_⟩
    · rw [c1]; exact cH3.at' fun o e => upH _ o e
    · rw [c1]; exact tn _ (by lia)
    · rw [hcell z] at ha; cases ha
      exact ⟨tn _ (by lia), _, (cells.2 z).2⟩
  have loop := comp_loop (s := { s with heap := h₁, toks := t₁ }) (elt := elt) (iter := iter) (px := xp) (pos := pos) (scope := sc) hE hT R K h2 h3 Fm₁ Fc (by rw [c3]; exact hk) (by rw [c3]; exact relabel_is Fm sc) c4 c5 (fun l' hl' y ky hy => by rw [hl] at hl'; cases hl'; exact hcl y ky hy) hce hlen
    (RR := compPost (model c.prog c.w) A E use Q (.ref (h₁.objs.size + 1)) (h₁.objs.size + 2))
    (fun h' ρ' tk i us I' X' e' r' t' ns' tC' _ => by
      rw [c1] at ns' tC'
      obtain ⟨I'', tr⟩ := I'.adopt (o := .list q.1) e' t' (nw (h₁.objs.size + 1) (Nat.le_succ _)).off (by rintro ⟨z, -⟩; simp at z) (Heap.SameBut.refl _ _) fun tr => .list e' (r'.tr tr) rfl
      have X'' := Ext.adopt I' X' (nw (h₁.objs.size + 1) (Nat.le_succ _)).new (Heap.SameBut.refl _ _)
      refine k _ _ _ h' tk I'' (x₁.trans I₁ X'') (.obj (p := (h₁.objs.size + 1, h₁.objs.size + 1)) ?_) ns' (fun z => ?_) (nw (h₁.objs.size + 2) (Nat.le_add_right _ 2)).off ?_
      · rw [← I'.len]; simp
      · rcases Trk.app.mp z with z | ⟨p', hp', z⟩
        · exact tC' z
        · rw [List.mem_singleton.mp hp'] at z
          have : h₁.objs.size + 2 = h₁.objs.size + 1 := z.elim id id
          exact absurd this (Nat.ne_of_gt (Nat.lt_succ_self _))
      · cases z : s.heap.get? (h₁.objs.size + 2) with
        | none => rfl
        | some o => exact (x₁.fresh (nw (h₁.objs.size + 2) (Nat.le_add_right _ 2)).new I₁ (by rw [z]; exact fun z => nomatch z)).elim)
    (cnt + 1) (s₁ := { s with heap := pushCells H3 sc.names, toks := t₁ }) ⟨L0, hq, rfl⟩
  subst hcenv
  exact codeAny_compStart_list loop (self_s L0.it loop)
theorem comp_s (hE : SE c F d n) (hT : ST c F d n) (R : Room A d)
    {elt iter : Expr} {x : Str} {xp pos : Pos} {ifs : List Expr} {sc : Scope} {isrc ielt : IE} {iifs : ITs} {v : V} {Q : Value → Shared → Prop}
    (hk : sc.kind = .function) (hc : compCE Γ sc.names x nx = some Γ') (h1 : cE glb aidx n Γ nx iter = some isrc) (h2 : cTests (cT glb aidx n Γ' (nx + 1)) ifs = some iifs) (h3 : cE glb aidx n Γ' (nx + 1) elt = some ielt)
    (I : Inv c σ ρ s.heap) (Fm : Frm c Γ env pe ρ s.heap) (e : evE initOf F (.comp nx isrc iifs ielt) env σ = some (v, σ')) (k : Kont c s ρ σ' v Q) :
    wpAny (model c.prog c.w) A (eval (.ListComp elt [⟨.Name x xp, iter, ifs, 0⟩] sc pos) pe) Q E s := by
  rw [eval_ListComp]
  refine comp_core (use := none) hE hT R hk hc h1 h2 h3 I Fm e fun D C ρ' h' tk I' X' r' ns' tC gC sC => ?_
  obtain ⟨m, hm⟩ := ns'
  refine ⟨m, hm, fun h'' hs => ?_⟩
  have nt := NotT.ns hm
  exact k _ ρ' h'' tk (X'.touch sC (But.of hs)) (I'.touch nt tC gC (But.of hs)) (r'.tr (Tr.touch nt (But.of hs)))
end
end Mine
namespace Mine
open PySem PySem.W PyProof.Rows PySem.Calls
noncomputable abbrev HasF (F : CFun) : Prop := ∀ f vs σ r, F f vs σ = some r → ∃ fn, tbl f = some fn
section
variable {c : Ctx} {F : CFun} {d n : Nat} {Γ : CE} {nx : Nat} {env : LE} {pe : Env} {A : Around} {E : Value → Shared → Prop} {s : Shared} {σ σ' : AH} {ρ : Rho}
theorem tabOf_is {v : Expr} {xs : List Int} (h : tabOf glb Γ v = some xs) : ∃ id p, v = .Name id p ∧ (id == ("__debug__" : Str)) = false ∧ cGlb glb Γ id = some (.tup xs) := by
  revert h; refine bE fun x _ h => ?_
  obtain ⟨id, p, e⟩ := x
  revert h; refine eE fun hd h => ?_
  revert h; refine oN fun _ h => ?_
  revert h; refine bE fun g hg h => ?_
  refine ⟨id, p, e, hd, ?_⟩
  cases g with
  | tup ys => obtain rfl := Option.some.inj h; exact hg
  | _ => exact zE h
theorem const_s {cc : Const} {kk : Nat} {p : Pos} {w : V} {Q : Value → Shared → Prop} (hw : cstV cc = some w) (I : Inv c σ ρ s.heap) (k : Kont c s ρ σ w Q) : wpAny (model c.prog c.w) A (eval (.Constant cc kk p) pe) Q E s := by
  cases cc with
  | none => obtain rfl := Option.some.inj hw; exact wpAny_Constant_none (k.same I .none _)
  | bool b => obtain rfl := Option.some.inj hw; exact wpAny_Constant_bool (k.same I (.bool _) _)
  | int i => obtain rfl := Option.some.inj hw; exact wpAny_Constant_int (k.same I (.int _ _) _)
  | str x =>
    obtain rfl := Option.some.inj hw
    have := VRep.str (h := s.heap) (ρ := ρ) x.cps.toList s.toks
    rw [show (⟨x.cps.toList.toArray⟩ : Str) = x from rfl] at this
    exact wpAny_Constant_str (k.same I this _)
  | _ => exact zE hw
theorem tab_s (W : World c) {id : Str} {p : Pos} {xs : List Int} {Q : Value → Shared → Prop} (I : Inv c σ ρ s.heap) (Fm : Frm c Γ env pe ρ s.heap) (hd : (id == ("__debug__" : Str)) = false) (h : cGlb glb Γ id = some (.tup xs))
    (k : ∀ a kk (ts : List Tok), c.K.lookup a = some (tupObj ((xs.zip ts).map fun p => Value.int p.1 p.2) kk) → ts.length = xs.length → xs.length ≤ 1000 → Q (.ref a) s) : wpAny (model c.prog c.w) A (eval (.Name id p) pe) Q E s := by
  obtain ⟨hk, hl⟩ := glbK h
  obtain ⟨a, kk, ts, h1, h2, h3, h4⟩ := W.glb id _ hl
  exact glob_s I Fm hk h1 hd (k a kk ts h2 h3 h4)
theorem opt_s (hE : SE c F d n) (R : Room A d) {o : Option Expr} {i : IE} {v : V} {Q : Value → Shared → Prop} (h : cOpt (cE glb aidx n Γ nx) o = some i) (I : Inv c σ ρ s.heap) (Fm : Frm c Γ env pe ρ s.heap)
    (e : evE initOf F i env σ = some (v, σ')) (k : Kont c s ρ σ' v Q) : wpAny (model c.prog c.w) A (evalPart o pe) Q E s := by
  cases o with
  | none =>
    obtain rfl := Option.some.inj h
    obtain ⟨rfl, rfl⟩ := Prod.mk.inj (Option.some.inj e)
    exact wpAny_pure (k.same I .none _)
  | some x => exact hE Γ nx x i h A pe env s σ ρ v σ' Q E R I Fm e k
theorem none_part {Q : Value → Shared → Prop} (h : Q .none s) : wpAny (model c.prog c.w) A (evalPart none pe) Q E s := wpAny_pure h
theorem dsub_at {h : Heap} {o v : V} {u : Value} {a : Nat} (I : Inv c σ ρ h) (r : VRep h ρ o u) (e : dsubV o a σ = some v) : ∃ p kvs, u = .ref p ∧ h.DictOf (strKind c.prog c.w) p kvs ∧ ∃ w, valueAt kvs (anm a) = some w ∧ VRep h ρ v w := by
  obtain ⟨n, fs, rfl, q, e⟩ := dsubV_is e
  obtain ⟨p, hp, ro⟩ := I.at q
  obtain ⟨_, a1, rfl⟩ := objRef r
  obtain rfl := Option.some.inj (hp.symm.trans a1)
  cases ro with
  | dict e1 rf d =>
    obtain ⟨w, hw, hr⟩ := rf.get a v e
    exact ⟨_, _, rfl, e1, w, hw, hr⟩
theorem meth_s (hE : SE c F d n) (R : Room A d) {o : Expr} {name : Str} {m : ME} {apos pos : Pos} {es : List Expr} {io : IE} {ies : IEs} {v : V} {Q : Value → Shared → Prop} (hb : bareCall o = false) (hl : (apos.endLine == pos.line) = true) (hlen : es.length < 20)
    (hm : meNames.lookup name = some m) (h1 : cE glb aidx n Γ nx o = some io) (h2 : cList (cE glb aidx n Γ nx) es = some ies) (I : Inv c σ ρ s.heap) (Fm : Frm c Γ env pe ρ s.heap)
    (e : evE initOf F (.meth m io ies) env σ = some (v, σ')) (k : Kont c s ρ σ' v Q) : wpAny (model c.prog c.w) A (eval (.Call (.Attribute o name apos) es [] pos) pe) Q E s := by
  revert e; refine bE fun p hp e => ?_
  split at e
  · rename_i hok
    revert e; refine bE fun q hq e => ?_
    have hn := meNames_is hm
    subst hn
    refine callMeth hb hl hlen (noStar h2) (hE Γ nx o io h1 A pe env s σ ρ p.1 p.2 _ _ R I Fm hp fun u₁ ρ₁ h₁ t₁ x₁ I₁ r₁ pl => ?_)
    refine methGet_s I₁ r₁ e (fun k z => ?_) ⟨meId m, rfl, ?_⟩
    · rw [z] at hok
      exact Option.isSome_iff_exists.mp hok
    refine items_s hE R es ies h2 _ p.2 ρ₁ q.1 _ I₁ (Fm.ext x₁) hq fun us ρ₂ h₂ t₂ x₂ I₂ r₂ => ⟨I₂.inK, ?_⟩
    exact methV_s I₂ (r₁.ext x₂) r₂ e ((k.tail x₁ I₁).tail x₂ I₂)
  · cases e
theorem tabItem_s {w1 : V} {s1 : AH} {v : V} {xs : List Int} {ts : List Tok} {a : Addr} {kk : Nat} {o sl : Expr} {u₁ : Value} {ρ₁ : Rho} {h₁ : Heap} {t₁ : Nat} {Q : Value → Shared → Prop} (x₁ : Ext s.heap ρ h₁ ρ₁) (I₁ : Inv c s1 ρ₁ h₁) (r₁ : VRep h₁ ρ₁ w1 u₁)
    (hl : c.K.lookup a = some (tupObj ((xs.zip ts).map fun p => Value.int p.1 p.2) kk)) (hts : ts.length = xs.length) (hsz : xs.length ≤ 1000)
    (ev : (match (generalizing := false) w1 with | .int k => if 0 ≤ k ∧ k < 100000 then (xs[k.toNat]?).map fun z => (V.int z, s1) else none | _ => none) = some (v, σ')) (k : Kont c s ρ σ' v Q) :
    wpAny (model c.prog c.w) A (subscriptTail o sl (.ref a) u₁) Q E { s with heap := h₁, toks := t₁ } := by
  cases w1 with
  | int j =>
    revert ev; refine iE fun hj ev => ?_
    revert ev; refine mE fun z hz ev => ?_
    obtain ⟨rfl, rfl⟩ := Prod.mk.inj ev
    obtain ⟨_, rfl⟩ := intRef r₁
    have hgt := I₁.inK a _ hl
    have htup : IsTup h₁ a ((xs.zip ts).map fun p => Value.int p.1 p.2).toArray := ⟨_, hgt, rfl, _, rfl⟩
    have hlt := (List.getElem?_eq_some_iff.mp hz).1
    have hlt2 : j.toNat < ts.length := by lia
    have hzt : ((xs.zip ts).map fun p => Value.int p.1 p.2)[j.toNat]? = some (.int z ts[j.toNat]) := by
      rw [List.getElem?_map, List.getElem?_zip_eq_some (z := (z, ts[j.toNat])) |>.mpr ⟨hz, List.getElem?_eq_getElem hlt2⟩]
      rfl
    exact tailG (IsTup.typeIs (s := { s with heap := h₁, toks := t₁ }) htup) slot_tuple_getitem.lookup (PyProof.Rows.getItem_tuple htup (by lia) (by lia) (by
      have : ((xs.zip ts).map fun p => Value.int p.1 p.2).toArray.size = xs.length := by simp [hts]
      rw [this]; exact idx_of hj.1 rfl hlt) (by simpa using hzt) (k _ _ _ _ x₁ I₁ (.int _ _)))
  | _ => exact zE ev
theorem of_bne {a b : Nat} (h : (a != b) = false) : (a == b) = true := by
  unfold bne at h
  cases q : (a == b) with
  | true => rfl
  | false => rw [q] at h; cases h
theorem isLen_is {b : BI} (h : isLen b = true) : b = .len := by cases b <;> first | rfl | cases h
theorem callNm_s (W : World c) (hF : Sound c F d) (hF2 : HasF F) (ih : SE c F d n ∧ ST c F d n) (R : Room A d) {id : Str} {np cp : Pos} {as : List Expr} {g : GK} {ie : IE} {v : V} {Q : Value → Shared → Prop} (hd : (id == ("__debug__" : Str)) = false)
    (hk : Γ.kinds.lookup id = some .globalImplicit) (hgl : glb.lookup id = some g) (hc : cNm glb (cE glb aidx n Γ nx) Γ as g = some ie)
    (I : Inv c σ ρ s.heap) (Fm : Frm c Γ env pe ρ s.heap) (ev : evE initOf F ie env σ = some (v, σ')) (k : Kont c s ρ σ' v Q) : wpAny (model c.prog c.w) A (eval (.Call (.Name id np) as [] cp) pe) Q E s := by
  obtain ⟨hE, hT⟩ := ih
  cases g with
  | fn i =>
    revert hc; refine bE fun l hl hc => ?_
    obtain rfl := Option.some.inj hc
    revert ev; refine bE fun p1 hp ev => ?_
    obtain ⟨a, ha, hfn⟩ := W.glb id _ hgl
    obtain ⟨fn, hfn'⟩ := hF2 _ _ _ _ ev
    refine callName (f := .ref a) (fun Q q => glob_s I Fm hk ha hd q) (noStar hl) (fun h X => keeps_K (hfn fn hfn').keep h X) (items_s hE R as l hl s σ ρ p1.1 _ I Fm hp fun us ρ₁ h₁ t₁ x₁ I₁ r₁ => ⟨I₁.inK, ?_⟩)
    refine wpAny_call (hF i p1.1 p1.2 v σ' ev fn hfn' a (hfn fn hfn') A _ ρ₁ us ⟨R.hand, ?_, ?_⟩ I₁ r₁ _ (k.tail x₁ I₁))
    · have := R.depth; lia
    · have := R.units; lia
  | cls C =>
    revert hc; refine bE fun l hl hc => ?_
    obtain rfl := Option.some.inj hc
    revert ev; refine bE fun p1 hp ev => ?_
    revert ev; refine bE2 fun q1 s1 hq ev => ?_
    obtain ⟨hC, ha⟩ := W.glb id _ hgl
    obtain ⟨fn, hfn'⟩ := hF2 _ _ _ _ hq
    cases q1 with
    | none =>
      obtain ⟨rfl, rfl⟩ := Prod.mk.inj (Option.some.inj ev)
      refine callName (f := .ref (c.cls C)) (fun Q q => glob_s I Fm hk ha hd q) (noStar hl) (fun h X => keeps_K (W.cls C hC).keep h X) (items_s hE R as l hl s σ ρ p1.1 _ I Fm hp fun us ρ₁ h₁ t₁ x₁ I₁ r₁ => ⟨I₁.inK, ?_⟩)
      exact new_s W hC hF R I₁ r₁ hfn' hq rfl (k.tail x₁ I₁)
    | _ => exact zE ev
  | bi b =>
    obtain ⟨hb1, hb2, hb3⟩ := W.glb id _ hgl
    revert hc; refine oE (fun xs hlt hc => ?_) (fun _ hc => ?_)
    · obtain rfl := Option.some.inj hc
      obtain ⟨rfl, rfl⟩ := Prod.mk.inj (Option.some.inj ev)
      revert hlt; refine iE fun hb hlt => ?_
      obtain rfl := isLen_is hb
      revert hlt; refine bE fun a ha1 hlt => ?_
      obtain rfl := one_is ha1
      obtain ⟨id', p', rfl, hd2, hg2⟩ := tabOf_is hlt
      refine callName (f := biVal .len) (fun Q q => blt_s I Fm hk hb1 hb2 hb3 hd q) (fun e he => by rw [List.mem_singleton.mp he]; rfl) (fun h X => keeps_bi .len h) ?_
      refine spliced_cons (tab_s W I Fm hd2 hg2 fun a kk ts hl hts hsz => wpAny_pure ⟨I.inK, ?_⟩)
      have hgt := I.inK a _ hl
      have ht : IsTup s.heap a ((xs.zip ts).map fun p => Value.int p.1 p.2).toArray := ⟨_, hgt, rfl, _, rfl⟩
      have hz : ((xs.zip ts).map fun p => Value.int p.1 p.2).toArray.size = xs.length := by simp [hts]
      refine PyProof.Rows.len_tuple ht (by rw [hz]; lia) ?_
      rw [hz]
      exact k.same I (.int _ _) _
    · revert hc; refine bE fun l hl hc => ?_
      obtain rfl := Option.some.inj hc
      revert ev; refine bE fun p1 hp ev => ?_
      refine callName (f := biVal b) (fun Q q => blt_s I Fm hk hb1 hb2 hb3 hd q) (noStar hl) (fun h X => keeps_bi b h) (items_s hE R as l hl s σ ρ p1.1 _ I Fm hp fun us ρ₁ h₁ t₁ x₁ I₁ r₁ => ⟨I₁.inK, ?_⟩)
      exact biV_s I₁ r₁ ev (k.tail x₁ I₁)
  | _ => exact zE hc
theorem expr_step (W : World c) (hF : Sound c F d) (hF2 : HasF F) (ih : SE c F d n ∧ ST c F d n) : SE c F d (n + 1) := by
  have hE := ih.1
  have hT := ih.2
  intro Γ nx e ie hc A pe env s σ ρ v σ' Q E R I Fm ev k
  cases e with
  | Constant cc kk p =>
    revert hc; refine bE fun w hw hc => ?_
    obtain rfl := Option.some.inj hc
    obtain ⟨rfl, rfl⟩ := Prod.mk.inj (Option.some.inj ev)
    exact const_s hw I k
  | Name id p =>
    revert hc; refine eE fun hd hc => ?_
    revert hc; refine eE fun hd2 hc => ?_
    revert hc; refine oE (fun kk hv hc => ?_) (fun _ hc => ?_)
    · obtain rfl := Option.some.inj hc
      revert ev; refine mE fun v' hv' ev => ?_
      obtain ⟨rfl, rfl⟩ := Prod.mk.inj ev
      exact var_s I Fm hv hv' hd hd2 k
    · revert hc; refine bE fun g hg hc => ?_
      revert hc; refine bE fun w hw hc => ?_
      obtain rfl := Option.some.inj hc
      obtain ⟨rfl, rfl⟩ := Prod.mk.inj (Option.some.inj ev)
      obtain ⟨hk, hl⟩ := glbK hg
      cases g with
      | int i =>
        obtain rfl := Option.some.inj hw
        obtain ⟨t, ht⟩ := W.glb id _ hl
        exact glob_s I Fm hk ht hd (k.same I (.int _ _) _)
      | str i =>
        obtain rfl := Option.some.inj hw
        obtain ⟨t, ht⟩ := W.glb id _ hl
        exact glob_s I Fm hk ht hd (k.same I (.str _ _) _)
      | _ => exact zE hw
  | BinOp l op r p =>
    revert hc; refine bE fun a ha hc => ?_
    revert hc; refine bE fun b hb hc => ?_
    first | obtain rfl := Option.some.inj hc | cases hc
    revert ev; refine bE fun p1 hp ev => ?_
    revert ev; refine bE fun q1 hq ev => ?_
    refine wpAny_BinOp (hE Γ nx l a ha A pe env s σ ρ p1.1 p1.2 _ _ R I Fm hp fun u₁ ρ₁ h₁ t₁ x₁ I₁ r₁ => ?_)
    refine hE Γ nx r b hb A pe env _ p1.2 ρ₁ q1.1 q1.2 _ _ R I₁ (Fm.ext x₁) hq fun u₂ ρ₂ h₂ t₂ x₂ I₂ r₂ => ?_
    exact binV_s I₂ (r₁.ext x₂) r₂ ev ((k.tail x₁ I₁).tail x₂ I₂)
  | UnaryOp op x p =>
    cases op with
    | USub =>
      revert hc; refine bE fun a ha hc => ?_
      first | obtain rfl := Option.some.inj hc | cases hc
      revert ev; refine bE2 fun w1 s1 hp ev => ?_
      cases w1 with
      | int i =>
        obtain ⟨rfl, rfl⟩ := Prod.mk.inj (Option.some.inj ev)
        refine wpAny_UnaryOp (hE Γ nx x a ha A pe env s σ ρ _ _ _ _ R I Fm hp fun u₁ ρ₁ h₁ t₁ x₁ I₁ r₁ => ?_)
        obtain ⟨_, rfl⟩ := intRef r₁
        exact neg_int (k _ _ _ _ x₁ I₁ (.int _ _))
      | _ => exact zE ev
    | Invert =>
      revert hc; refine bE fun a ha hc => ?_
      first | obtain rfl := Option.some.inj hc | cases hc
      revert ev; refine bE2 fun w1 s1 hp ev => ?_
      cases w1 with
      | int i =>
        obtain ⟨rfl, rfl⟩ := Prod.mk.inj (Option.some.inj ev)
        refine wpAny_UnaryOp (hE Γ nx x a ha A pe env s σ ρ _ _ _ _ R I Fm hp fun u₁ ρ₁ h₁ t₁ x₁ I₁ r₁ => ?_)
        obtain ⟨_, rfl⟩ := intRef r₁
        exact invert_int (k _ _ _ _ x₁ I₁ (.int _ _))
      | _ => exact zE ev
    | Not =>
      revert hc; refine bE fun a ha hc => ?_
      first | obtain rfl := Option.some.inj hc | cases hc
      revert ev; refine bE fun p1 hp ev => ?_
      revert ev; refine mE fun b hb ev => ?_
      obtain ⟨rfl, rfl⟩ := Prod.mk.inj ev
      refine wpAny_UnaryOp (hE Γ nx x a ha A pe env s σ ρ p1.1 p1.2 _ _ R I Fm hp fun u₁ ρ₁ h₁ t₁ x₁ I₁ r₁ => ?_)
      exact not_of (truthV_s r₁ hb (k _ _ _ _ x₁ I₁ (.bool _)))
    | _ => exact zE hc
  | IfExp t a b p =>
    revert hc; refine bE fun it ht hc => ?_
    revert hc; refine bE fun ia ha hc => ?_
    revert hc; refine bE fun ib hb hc => ?_
    first | obtain rfl := Option.some.inj hc | cases hc
    revert ev; refine bE2 fun b1 s1 hp ev => ?_
    refine wpAny_IfExp (hT Γ nx t it ht A pe env s σ ρ _ _ _ _ R I Fm hp fun ρ₁ h₁ t₁ x₁ I₁ => ?_)
    cases b1 with
    | true => exact hE Γ nx a ia ha A pe env _ _ ρ₁ v σ' _ _ R I₁ (Fm.ext x₁) ev (k.tail x₁ I₁)
    | false => exact hE Γ nx b ib hb A pe env _ _ ρ₁ v σ' _ _ R I₁ (Fm.ext x₁) ev (k.tail x₁ I₁)
  | Compare l ops cs p =>
    revert hc; refine eE fun hm hc => ?_
    revert hc; refine bE fun a ha hc => ?_
    revert hc; refine bE fun b hb hc => ?_
    obtain rfl := Option.some.inj hc
    revert ev; refine bE fun p1 hp ev => ?_
    revert ev; refine mE fun q1 hq ev => ?_
    obtain ⟨rfl, rfl⟩ := Prod.mk.inj ev
    show wpAny _ A (do compareChain p (← eval l pe) ops (markedEach ops cs (evalEach cs pe))) Q E s
    rw [markedEach_of_false _ _ _ hm]
    refine wpAny_bind (hE Γ nx l a ha A pe env s σ ρ p1.1 p1.2 _ _ R I Fm hp fun u₁ ρ₁ h₁ t₁ x₁ I₁ r₁ => ?_)
    exact chain_s hE R ops cs b hb _ p1.2 ρ₁ p1.1 u₁ q1.1 Q I₁ (Fm.ext x₁) r₁ hq (k.tail x₁ I₁)
  | BoolOp op vs p =>
    cases op with
    | And => exact bop_s hE R .And true rfl vs ie hc s σ ρ v Q I Fm ev k
    | Or => exact bop_s hE R .Or false rfl vs ie hc s σ ρ v Q I Fm ev k
  | Attribute o a p =>
    revert hc; refine eE fun hb hc => ?_
    revert hc; refine bE fun io ho hc => ?_
    revert hc; refine bE fun ka hka hc => ?_
    obtain rfl := Option.some.inj hc
    revert ev; refine bE fun p1 hp ev => ?_
    revert ev; refine mE fun v' hv' ev => ?_
    obtain ⟨rfl, rfl⟩ := Prod.mk.inj ev
    rw [arm_eval_Attribute]
    refine wpAny_bind (attrBase hb (hE Γ nx o io ho A pe env s σ ρ p1.1 p1.2 _ _ R I Fm hp fun u₁ ρ₁ h₁ t₁ x₁ I₁ r₁ => ?_))
    obtain ⟨l28, han⟩ := W.inj a ka hka
    refine wpAny_bind (wpAny_standAt (wpAny_bind (wpAny_holding ?_)))
    rw [← han]
    refine attr_s W l28 I₁ r₁ hv' fun u₂ ρ₂ h₂ t₂ x₂ I₂ r₂ => wpAny_bind (wpAny_letTemporaryGo (wpAny_pure ?_))
    exact k _ _ _ _ (x₁.trans I₁ x₂) I₂ r₂
  | Subscript o sl p =>
    revert hc; refine oE (fun q _ hc => ?_) (fun _ hc => ?_)
    · obtain ⟨⟨lo, hi, st⟩, sp, rfl⟩ := q
      revert hc; refine oE (fun st' hst hc => ?_) (fun hst hc => ?_)
      · revert hc; refine iE fun hq hc => ?_
        obtain ⟨q1, q2, q3⟩ := hq
        obtain rfl := Option.isNone_iff_eq_none.mp q1
        obtain rfl := Option.isNone_iff_eq_none.mp q2
        obtain rfl : st = some st' := hst
        revert hc; refine bE fun io ho hc => ?_
        obtain rfl := Option.some.inj hc
        revert ev; refine bE fun p1 hp ev => ?_
        obtain ⟨_, _, _, rfl⟩ := isMinus1_is q3
        refine Subscript_ (hE Γ nx o io ho A pe env s σ ρ p1.1 p1.2 _ _ R I Fm hp fun u₁ ρ₁ h₁ t₁ x₁ I₁ r₁ => ?_)
        refine wpAny_Slice (none_part (none_part ?_))
        refine wpAny_UnaryOp (wpAny_Constant_int (neg_int ?_))
        have xp : Ext h₁ ρ₁ (h₁.push { cls := .type "slice", data := .fields #[.none, .none, .int (-1) (t₁ + 1)] }) ρ₁ := Ext.push _
        have k3 : Kont c { s with heap := h₁, toks := t₁ + 1 + 1 } ρ₁ σ' v Q := fun u ρ' h' tk x' I' r => k u ρ' h' tk (x₁.trans I₁ x') I' r
        obtain ⟨g, T, id, hT', hl⟩ := rev_s (sl := h₁.objs.size) (E := E) (A := A) (Q := Q) (s := { s with heap := h₁.push { cls := .type "slice", data := .fields #[.none, .none, .int (-1) (t₁ + 1)] }, toks := t₁ + 1 + 1 }) (I₁.push _)
          (r₁.ext xp) (Heap.IsSliceOf.new ..) ev (Kont.tail (s := { s with heap := h₁, toks := t₁ + 1 + 1 }) (t₁ := t₁ + 1 + 1) k3 xp (I₁.push _))
        exact tailG hT' hl g
      · obtain rfl : st = none := hst
        revert hc; refine bE fun io ho hc => ?_
        revert hc; refine bE fun ia ha hc => ?_
        revert hc; refine bE fun ib hb hc => ?_
        obtain rfl := Option.some.inj hc
        revert ev; refine bE fun p1 hp ev => ?_
        revert ev; refine bE fun p2 hp2 ev => ?_
        revert ev; refine bE fun p3 hp3 ev => ?_
        refine Subscript_ (hE Γ nx o io ho A pe env s σ ρ p1.1 p1.2 _ _ R I Fm hp fun u₁ ρ₁ h₁ t₁ x₁ I₁ r₁ => ?_)
        refine wpAny_Slice (opt_s hE R ha I₁ (Fm.ext x₁) hp2 fun u₂ ρ₂ h₂ t₂ x₂ I₂ r₂ => ?_)
        refine opt_s hE R hb I₂ ((Fm.ext x₁).ext x₂) hp3 fun u₃ ρ₃ h₃ t₃ x₃ I₃ r₃ => none_part ?_
        have xp : Ext h₃ ρ₃ (h₃.push { cls := .type "slice", data := .fields #[u₂, u₃, .none] }) ρ₃ := Ext.push _
        have k3 : Kont c { s with heap := h₃, toks := t₃ } ρ₃ σ' v Q := fun u ρ' h' tk x' I' r => k u ρ' h' tk (x₁.trans I₁ (x₂.trans I₂ (x₃.trans I₃ x'))) I' r
        obtain ⟨g, T, id, hT', hl⟩ := slice_s (sl := h₃.objs.size) (E := E) (A := A) (Q := Q) (s := { s with heap := h₃.push { cls := .type "slice", data := .fields #[u₂, u₃, .none] }, toks := t₃ }) (I₃.push _)
          ((((r₁.ext x₂).ext x₃)).ext xp) ((r₂.ext x₃).ext xp) (r₃.ext xp) (Heap.IsSliceOf.new ..) ev (Kont.tail (s := { s with heap := h₃, toks := t₃ }) (t₁ := t₃) k3 xp (I₃.push _))
        exact tailG hT' hl g
    · revert hc; refine oE (fun x hx hc => ?_) (fun _ hc => ?_)
      · revert hc; refine bE fun io ho hc => ?_
        revert hc; refine bE fun ka hka hc => ?_
        obtain rfl := Option.some.inj hc
        revert ev; refine bE fun p1 hp ev => ?_
        revert ev; refine mE fun v' hv' ev => ?_
        obtain ⟨rfl, rfl⟩ := Prod.mk.inj ev
        obtain ⟨_, han⟩ := W.inj x ka hka
        obtain ⟨_, _, rfl⟩ := strConst_is hx
        refine Subscript_ (hE Γ nx o io ho A pe env s σ ρ p1.1 p1.2 _ _ R I Fm hp fun u₁ ρ₁ h₁ t₁ x₁ I₁ r₁ => wpAny_Constant_str ?_)
        obtain ⟨pd, kvs, rfl, hd, uu, hval, hr⟩ := dsub_at I₁ r₁ hv'
        rw [han] at hval
        exact tailG (id := "dict.__getitem__") (Heap.DictOf.typeIs (s := { s with heap := h₁, toks := t₁ + 1 }) hd) slot_dict_getitem.lookup (wpAny_getItem_of (strKind_is _ _ _ _) hd.mapOf hval (k _ _ _ _ x₁ I₁ hr))
      · revert hc; refine oE (fun xs ht hc => ?_) (fun _ hc => ?_)
        · revert hc; refine bE fun ii hi hc => ?_
          obtain rfl := Option.some.inj hc
          revert ev; refine bE2 fun w1 s1 hp ev => ?_
          obtain ⟨id, p', rfl, hd, hg⟩ := tabOf_is ht
          refine Subscript_ (tab_s W I Fm hd hg fun a kk ts hl hts hsz => ?_)
          refine hE Γ nx sl ii hi A pe env s σ ρ w1 s1 _ _ R I Fm hp fun u₁ ρ₁ h₁ t₁ x₁ I₁ r₁ => ?_
          exact tabItem_s x₁ I₁ r₁ hl hts hsz ev k
        · revert hc; refine bE fun io ho hc => ?_
          revert hc; refine bE fun ii hi hc => ?_
          obtain rfl := Option.some.inj hc
          exact sub_s hE R ho hi I Fm ev k
  | List es p =>
    revert hc; refine bE fun l hl hc => ?_
    first | obtain rfl := Option.some.inj hc | cases hc
    revert ev; refine bE fun p1 hp ev => ?_
    revert ev; refine iE fun hlen ev => ?_
    obtain ⟨rfl, rfl⟩ := Prod.mk.inj (Option.some.inj ev)
    show wpAny _ A (do standAt p; newList (← spliced (backTo p (starEach es pe)))) Q E s
    rw [plain_args (noStar hl)]
    refine wpAny_bind (wpAny_standAt (wpAny_bind (items_s hE R es l hl s σ ρ p1.1 _ I Fm hp fun us ρ₁ h₁ t₁ x₁ I₁ r₁ => ?_)))
    exact newList_s I₁ r₁ hlen (k.tail x₁ I₁)
  | Tuple es cx p =>
    revert hc; refine bE fun l hl hc => ?_
    first | obtain rfl := Option.some.inj hc | cases hc
    revert ev; refine bE fun p1 hp ev => ?_
    revert ev; refine iE fun hlen ev => ?_
    obtain ⟨rfl, rfl⟩ := Prod.mk.inj (Option.some.inj ev)
    show wpAny _ A (do standAt p; newTuple (← spliced (backTo p (starEach es pe)))) Q E s
    rw [plain_args (noStar hl)]
    refine wpAny_bind (wpAny_standAt (wpAny_bind (items_s hE R es l hl s σ ρ p1.1 _ I Fm hp fun us ρ₁ h₁ t₁ x₁ I₁ r₁ => ?_)))
    exact newTuple_s I₁ r₁ hlen (k.tail x₁ I₁)
  | Dict ks vs p =>
    revert hc; refine bE fun q hd hc => ?_
    obtain ⟨k1, p1, k2, p2, rfl, rfl⟩ := dict2_is hd
    revert hc; refine bE fun a ha hc => ?_
    revert hc; refine bE fun b hb hc => ?_
    revert hc; refine nE fun hne hc => ?_
    revert hc; refine bE fun iv hv hc => ?_
    revert hc; refine bE fun iw hw hc => ?_
    obtain rfl := Option.some.inj hc
    exact dict_s W hE R ha hb hne hv hw I Fm ev k
  | Call f as kws cp =>
    revert hc; refine iE fun hkw hc => ?_
    obtain rfl := List.isEmpty_iff.mp hkw
    revert hc; refine oE (fun q _ hc => ?_) (fun _ hc => ?_)
    · obtain ⟨⟨o, name, ap⟩, rfl⟩ := q
      revert hc; refine eE fun hq1 hc => ?_
      revert hc; refine eE fun hq2 hc => ?_
      revert hc; refine iE fun hq3 hc => ?_
      revert hc; refine bE fun m hm hc => ?_
      revert hc; refine bE fun io ho hc => ?_
      revert hc; refine bE fun l hl hc => ?_
      obtain rfl := Option.some.inj hc
      exact meth_s hE R hq1 (of_bne hq2) hq3 hm ho hl I Fm ev k
    · revert hc; refine bE fun id _ hc => ?_
      obtain ⟨id, np, rfl⟩ := id
      revert hc; refine eE fun hd hc => ?_
      revert hc; refine oN fun _ hc => ?_
      revert hc; refine bE fun g hg hc => ?_
      obtain ⟨hk, hgl⟩ := glbK hg
      exact callNm_s W hF hF2 ih R hd hk hgl hc I Fm ev k
  | ListComp elt gens sc p =>
    revert hc; refine bE3 fun x iter ifs hg hc => ?_
    obtain ⟨gp, rfl⟩ := comp1_is hg
    revert hc; refine iE fun hk hc => ?_
    revert hc; refine bE fun Γ' h0 hc => ?_
    revert hc; refine bE fun i1 h1 hc => ?_
    revert hc; refine bE fun i2 h2 hc => ?_
    revert hc; refine bE fun i3 h3 hc => ?_
    obtain rfl := Option.some.inj hc
    exact comp_s hE hT R hk h0 h1 h2 h3 I Fm ev k
  | _ => exact zE hc
theorem test_step (ih : SE c F d n ∧ ST c F d n) : ST c F d (n + 1) := by
  obtain ⟨hE, hT⟩ := ih
  intro Γ nx e it hc A pe env s σ ρ b σ' Q E R I Fm ev k
  have plain : ∀ ie, cE glb aidx n Γ nx e = some ie → it = .val ie → PySem.isTrue e pe (eval e pe) = (do let v ← eval e pe; standAt e.pos; holding [v] (truthy v)) → wpAny (model c.prog c.w) A (PySem.isTrue e pe (eval e pe)) Q E s := by
    intro ie h1 h2 h3
    subst h2
    revert ev; refine bE fun p1 hp ev => ?_
    revert ev; refine mE fun b' hb ev => ?_
    cases ev
    exact isTrue_plain (hE Γ nx e ie h1 A pe env s σ ρ p1.1 p1.2 _ _ R I Fm hp fun u₁ ρ₁ h₁ t₁ x₁ I₁ r₁ => truthV_s r₁ hb (k _ _ _ x₁ I₁)) h3
  have plain' : ((cE glb aidx n Γ nx e).bind fun a => some (IT.val a)) = some it → PySem.isTrue e pe (eval e pe) = (do let v ← eval e pe; standAt e.pos; holding [v] (truthy v)) → wpAny (model c.prog c.w) A (PySem.isTrue e pe (eval e pe)) Q E s := by
    intro h h3
    revert h; refine bE fun ie h1 h => ?_
    first | obtain rfl := Option.some.inj h | cases h
    exact plain ie h1 rfl h3
  cases e with
  | UnaryOp op x p =>
    cases op with
    | Not =>
      revert hc; refine bE fun a ha hc => ?_
      first | obtain rfl := Option.some.inj hc | cases hc
      revert ev; refine mE fun p1 hp ev => ?_
      cases ev
      exact isTrue_not (hT Γ nx x a ha A pe env s σ ρ _ _ _ _ R I Fm hp k)
    | _ => exact plain' hc rfl
  | BoolOp op vs p =>
    cases op with
    | And => exact bopT_s hT R .And true rfl vs it hc s σ ρ b Q I Fm ev k
    | Or => exact bopT_s hT R .Or false rfl vs it hc s σ ρ b Q I Fm ev k
  | IfExp => exact zE hc
  | Compare l ops cs p =>
    revert hc; refine eE fun hm hc => ?_
    revert hc; refine bE fun a ha hc => ?_
    revert hc; refine bE fun b' hb hc => ?_
    obtain rfl := Option.some.inj hc
    revert ev; refine bE fun p1 hp ev => ?_
    show wpAny _ A (do testChain p (← eval l pe) ops (markedEach ops cs (evalEach cs pe))) Q E s
    rw [markedEach_of_false _ _ _ hm]
    refine wpAny_bind (hE Γ nx l a ha A pe env s σ ρ p1.1 p1.2 _ _ R I Fm hp fun u₁ ρ₁ h₁ t₁ x₁ I₁ r₁ => ?_)
    exact chainT_s hE R ops cs b' hb _ p1.2 ρ₁ p1.1 u₁ b Q I₁ (Fm.ext x₁) r₁ ev (k.tail x₁ I₁)
  | _ => exact plain' hc rfl
theorem expr_ok (W : World c) (hF : Sound c F d) (hF2 : HasF F) : ∀ n, SE c F d n ∧ ST c F d n
  | 0 => ⟨fun _ _ _ _ h => zE h, fun _ _ _ _ h => zE h⟩
  | n + 1 => ⟨expr_step W hF hF2 (expr_ok W hF hF2 n), test_step (expr_ok W hF hF2 n)⟩
end
end Mine
namespace Mine
open PySem PySem.W PyProof.Rows PySem.Calls
noncomputable def OffP (Γ : CE) (pe : Env) (b : Addr) : Prop := b ≠ pe.locals ∧ ∀ x k a, Γ.vars.lookup x = some k → Γ.kinds.lookup x = some .cell → pe.cells.lookup x = some a → b ≠ a
structure Fp (c : Ctx) (Γ : CE) (pe : Env) : Prop where
  inj : ∀ x y k, Γ.vars.lookup x = some k → Γ.vars.lookup y = some k → x = y
  apart : ∀ x y a, pe.cells.lookup x = some a → pe.cells.lookup y = some a → x = y
  nofree : ∀ x, Γ.kinds.lookup x ≠ some .free
  lo : c.g.get? pe.locals = none
  co : ∀ x k a, Γ.vars.lookup x = some k → Γ.kinds.lookup x = some .cell → pe.cells.lookup x = some a → c.g.get? a = none
structure SX (Γ : CE) (pe : Env) (h : Heap) (ρ : Rho) (h' : Heap) (ρ' : Rho) : Prop where
  new : ∃ n, ρ' = ρ ++ n ∧ ∀ p ∈ n, h.get? p.1 = none ∧ h.get? p.2 = none
  keep : ∀ b o, ¬ Trk ρ b → OffP Γ pe b → h.get? b = some o → h'.get? b = some o
section
variable {c : Ctx} {Γ : CE} {pe : Env} {env : LE} {σ σ' : AH} {h h' h'' : Heap} {ρ ρ' ρ'' : Rho}
theorem SX.of (x : Ext h ρ h' ρ') : SX Γ pe h ρ h' ρ' := ⟨x.new, fun b o t _ e => x.keep b o t e⟩
theorem SX.refl : SX Γ pe h ρ h ρ := SX.of (Ext.refl _ _)
theorem SX.off (x : SX Γ pe h ρ h' ρ') {a : Addr} {o : Obj} (e : h.get? a = some o) (t : ¬ Trk ρ a) : ¬ Trk ρ' a := by
  obtain ⟨n, rfl, hn⟩ := x.new
  intro q
  rcases Trk.app.mp q with q | ⟨p, hp, q⟩
  · exact t q
  · rcases q with rfl | rfl
    · rw [(hn p hp).1] at e; cases e
    · rw [(hn p hp).2] at e; cases e
theorem SX.idx (x : SX Γ pe h ρ h' ρ') {i : Nat} {p : Addr × Addr} (e : ρ[i]? = some p) : ρ'[i]? = some p := by
  obtain ⟨n, rfl, _⟩ := x.new
  rw [List.getElem?_append_left (List.getElem?_eq_some_iff.mp e).1]; exact e
theorem SX.trk (x : SX Γ pe h ρ h' ρ') {a : Addr} (t : Trk ρ a) : Trk ρ' a := by
  obtain ⟨n, rfl, _⟩ := x.new
  exact Trk.app.mpr (.inl t)
theorem Frm.offP (Fm : Frm c Γ env pe ρ h) {b : Addr} {o : Obj} (e : h.get? b = some o) (t : TR o) : OffP Γ pe b := by
  refine ⟨fun z => ?_, fun x k a h1 h2 h3 z => ?_⟩
  · obtain ⟨m, hm, _⟩ := Fm.ns
    exact NotT.ns hm o (z ▸ e) t
  · obtain ⟨a', w, q1, _, _, q4, _⟩ := Fm.cell x k h1 (.inl h2)
    rw [h3] at q1; cases q1
    exact NotT.cell q4 o (z ▸ e) t
theorem SX.tr (x : SX Γ pe h ρ h' ρ') (Fm : Frm c Γ env pe ρ h) : Tr h ρ h' ρ' :=
  ⟨fun _ _ e => x.idx e, fun b o t e q => ⟨x.keep b o t (Fm.offP e q) e, x.off e t⟩⟩
theorem Frm.own (Fm : Frm c Γ env pe ρ h) {b : Addr} (n : h.get? b = none) : OffP Γ pe b := by
  refine ⟨fun z => ?_, fun x k a h1 h2 h3 z => ?_⟩
  · obtain ⟨m, ⟨o, es, ep, e, _⟩, _⟩ := Fm.ns
    rw [← z, n] at e; cases e
  · obtain ⟨a', w, q1, _, _, ⟨o, q4, _⟩, _⟩ := Fm.cell x k h1 (.inl h2)
    rw [h3] at q1; cases q1
    rw [← z, n] at q4; cases q4
theorem SX.trans (Fm : Frm c Γ env pe ρ h) (I : Inv c σ' ρ' h') (x : SX Γ pe h ρ h' ρ') (y : SX Γ pe h' ρ' h'' ρ'') (Fm' : Frm c Γ env pe ρ' h' ∨ ∃ env', Frm c Γ env' pe ρ' h') : SX Γ pe h ρ h'' ρ'' := by
  have F' : ∃ env', Frm c Γ env' pe ρ' h' := Fm'.elim (fun z => ⟨_, z⟩) id
  obtain ⟨env', F'⟩ := F'
  obtain ⟨n, rfl, hn⟩ := x.new
  obtain ⟨m, rfl, hm⟩ := y.new
  have gone : ∀ a : Addr, h'.get? a = none → h.get? a = none := fun a e => by
    cases q : h.get? a with
    | none => rfl
    | some o =>
      by_cases t : Trk ρ a
      · exact absurd (Trk.app.mpr (.inl t)) (I.fresh e)
      · rw [x.keep a o t (F'.own e) q] at e; cases e
  refine ⟨⟨n ++ m, by simp, fun p hp => ?_⟩, fun b o t f e => y.keep b o (fun q => x.off e t q) f (x.keep b o t f e)⟩
  rcases List.mem_append.mp hp with q | q
  · exact hn p q
  · exact ⟨gone _ (hm p q).1, gone _ (hm p q).2⟩
theorem Inv.upd2 (I : Inv c σ ρ h) {n : Nat} {q : Addr × Addr} {o : AO} {L : Addr} (hq : ρ[n]? = some q) (nt : NotT h L) (tL : ¬ Trk ρ L) (gL : c.g.get? L = none)
    (k : ∀ b x, b ≠ q.1 → b ≠ q.2 → b ≠ L → h.get? b = some x → h'.get? b = some x) (r : Tr h ρ h' ρ → ORep c h' ρ q o) : Inv c (σ.set n o) ρ h' ∧ Tr h ρ h' ρ := by
  have x : Tr h ρ h' ρ := ⟨fun _ _ e => e, fun b o t e z => ⟨k b o (fun w => t (w ▸ Trk.fst hq)) (fun w => t (w ▸ Trk.snd hq)) (fun w => nt o (w ▸ e) z) e, t⟩⟩
  have neL : ∀ {b : Addr}, Trk ρ b → b ≠ L := fun t z => tL (z ▸ t)
  refine ⟨⟨fun b o e => k b o (fun z => ?_) (fun z => ?_) (fun z => ?_) (I.keep b o e), I.off, by simp [I.len], ?_, I.sep⟩, x⟩
  · exact I.untr e (z ▸ Trk.fst hq)
  · exact I.untr e (z ▸ Trk.snd hq)
  · rw [z, gL] at e; cases e
  intro i o' p ho hp
  by_cases hi : n = i
  · subst hi
    rw [hq] at hp; cases hp
    have hl : n < σ.length := by rw [← I.len]; exact (List.getElem?_eq_some_iff.mp hq).1
    rw [List.getElem?_set_self hl] at ho
    cases ho
    exact r x
  · rw [List.getElem?_set_ne hi] at ho
    have s := I.sep n i q p hq hp hi
    exact (I.obj i o' p ho hp).tr x (fun o e => k _ o s.1.symm s.2.2.1.symm (neL (Trk.fst hp)) e) (fun o e => k _ o s.2.1.symm s.2.2.2.symm (neL (Trk.snd hp)) e)
theorem Frm.tr (Fm : Frm c Γ env pe ρ h) (x : Tr h ρ h' ρ') (t : ¬ Trk ρ' pe.locals) (tc : ∀ y k a, Γ.vars.lookup y = some k → (Γ.kinds.lookup y = some .cell ∨ Γ.kinds.lookup y = some .free) → pe.cells.lookup y = some a → ¬ Trk ρ' a)
    (hl : ∀ m, h.Ns pe.locals m → h'.Ns pe.locals m) (hc : ∀ y k a w, Γ.vars.lookup y = some k → (Γ.kinds.lookup y = some .cell ∨ Γ.kinds.lookup y = some .free) → pe.cells.lookup y = some a → h.IsCell a w → h'.IsCell a w) : Frm c Γ env pe ρ' h' := by
  obtain ⟨m, hm, hv⟩ := Fm.ns
  refine ⟨Fm.kind, Fm.names, Fm.glob, Fm.blt, t, ⟨m, hl m hm, fun y k v a b e => ?_⟩, fun y k a b => ?_⟩
  · obtain ⟨u, q, r⟩ := hv y k v a b e
    exact ⟨u, q, r.tr x⟩
  · obtain ⟨a', w, q1, q2, q3, q4, q5⟩ := Fm.cell y k a b
    exact ⟨a', w, q1, tc y k a' a b q1, q3, hc y k a' w a b q1 q4, fun v e => let ⟨u, z, r⟩ := q5 v e; ⟨u, z, r.tr x⟩⟩
end
section
variable {c : Ctx} {F : CFun} {d n : Nat} {Γ : CE} {nx : Nat} {env env' : LE} {pe : Env} {A : Around} {E : Value → Shared → Prop} {s : Shared} {σ σ' : AH} {ρ : Rho}
noncomputable abbrev KontU (c : Ctx) (Γ : CE) (pe : Env) (env' : LE) (s : Shared) (ρ : Rho) (σ' : AH) (Q : Unit → Shared → Prop) : Prop :=
  ∀ h' tk, SX Γ pe s.heap ρ h' ρ → Inv c σ' ρ h' → Frm c Γ env' pe ρ h' → (∀ C m, OffP Γ pe C → ¬ Trk ρ C → s.heap.Ns C m → h'.Ns C m) → Q () { s with heap := h', toks := tk }
theorem get_set {k : Nat} {v v' : V} (e : (env.set k (some v))[k]?.join = some v') : v' = v := by
  by_cases hlt : k < env.length
  · rw [List.getElem?_set_self hlt] at e; simpa using e.symm
  · rw [List.getElem?_eq_none (by rw [List.length_set]; lia)] at e; cases e
theorem store_s {id : Str} {k : Nat} {v : V} {u : Value} {Q : Unit → Shared → Prop} (P : Fp c Γ pe) (hv : cVar Γ id = some k) (I : Inv c σ ρ s.heap) (Fm : Frm c Γ env pe ρ s.heap) (r : VRep s.heap ρ v u)
    (q : KontU c Γ pe (env.set k (some v)) s ρ σ Q) : wpAny (model c.prog c.w) A (storeName pe id u) Q E s := by
  obtain ⟨hv, hk | hk | hk⟩ := cVar_is hv
  · obtain ⟨m, hm, hg⟩ := Fm.ns
    refine wpAny_storeName_local ((Fm.kindOf id).trans hk) hm (fun h' hn hs => ?_) (by rw [Fm.kind]; rfl)
    have nt := NotT.ns hm
    have but := But.of hs
    have tr : Tr s.heap ρ h' ρ := Tr.touch nt but
    refine q h' _ ⟨⟨[], by simp, fun _ h => nomatch h⟩, fun b o _ f e => but b o f.1 e⟩ (I.touch nt Fm.off P.lo but) ?_ (fun C m' f _ h => h.at' fun o e => but _ o f.1 e)
    refine ⟨Fm.kind, Fm.names, Fm.glob, Fm.blt, Fm.off, ⟨_, hn, fun y k' v' a b e => ?_⟩, fun y k' a b => ?_⟩
    · by_cases hy : y = id
      · subst hy
        rw [hv] at a; cases a
        rw [get_set e]
        exact ⟨u, by simp, r.tr tr⟩
      · have hk' : k' ≠ k := fun z => hy (P.inj y id k (z ▸ a) hv)
        rw [List.getElem?_set_ne (Ne.symm hk')] at e
        obtain ⟨w, e1, e2⟩ := hg y k' v' a b e
        exact ⟨w, by simpa [hy] using e1, e2.tr tr⟩
    · have hy : y ≠ id := fun z => by subst z; rw [hk] at b; rcases b with b | b <;> cases b
      have hk' : k' ≠ k := fun z => hy (P.inj y id k (z ▸ a) hv)
      obtain ⟨a', w, q1, q2, q3, ⟨oc, q4, q4'⟩, q5⟩ := Fm.cell y k' a b
      refine ⟨a', w, q1, q2, q3, ⟨oc, but _ _ q3 q4, q4'⟩, fun v' e => ?_⟩
      rw [List.getElem?_set_ne (Ne.symm hk')] at e
      obtain ⟨u', z, r'⟩ := q5 v' e
      exact ⟨u', z, r'.tr tr⟩
  · obtain ⟨a, w, q1, q2, q3, q4, q5⟩ := Fm.cell id k hv (.inl hk)
    obtain ⟨m, hm, hg⟩ := Fm.ns
    refine wpAny_storeName_cell Fm.kind ((Fm.kindOf id).trans hk) q1 q4 fun h' hc hs => ?_
    have nt := NotT.cell q4
    have but := But.of hs
    have tr : Tr s.heap ρ h' ρ := Tr.touch nt but
    refine q h' s.toks ⟨⟨[], by simp, fun _ h => nomatch h⟩, fun b o _ f e => but b o (f.2 id k a hv hk q1) e⟩ (I.touch nt q2 (P.co id k a hv hk q1) but) ?_ (fun C m' f _ h => h.at' fun o e => but _ o (f.2 id k a hv hk q1) e)
    refine ⟨Fm.kind, Fm.names, Fm.glob, Fm.blt, Fm.off, ⟨m, hm.at' fun o e => but _ o q3.symm e, fun y k' v' b1 b2 e => ?_⟩, fun y k' b1 b2 => ?_⟩
    · have hy : y ≠ id := fun z => by subst z; rw [hk] at b2; cases b2
      have hk' : k' ≠ k := fun z => hy (P.inj y id k (z ▸ b1) hv)
      rw [List.getElem?_set_ne (Ne.symm hk')] at e
      obtain ⟨w', e1, e2⟩ := hg y k' v' b1 b2 e
      exact ⟨w', e1, e2.tr tr⟩
    · by_cases hy : y = id
      · subst hy
        rw [hv] at b1; cases b1
        exact ⟨a, some u, q1, q2, q3, hc, fun v' e => ⟨u, rfl, by rw [get_set e]; exact r.tr tr⟩⟩
      · have hk' : k' ≠ k := fun z => hy (P.inj y id k (z ▸ b1) hv)
        obtain ⟨a', w', p1, p2, p3, ⟨oc, p4, p4'⟩, p5⟩ := Fm.cell y k' b1 b2
        have ha : a' ≠ a := fun z => hy (P.apart y id a (z ▸ p1) q1)
        refine ⟨a', w', p1, p2, p3, ⟨oc, but _ _ ha p4, p4'⟩, fun v' e => ?_⟩
        rw [List.getElem?_set_ne (Ne.symm hk')] at e
        obtain ⟨u', z, r'⟩ := p5 v' e
        exact ⟨u', z, r'.tr tr⟩
  · exact absurd hk (P.nofree id)
end
end Mine
namespace Mine
open PySem PySem.W PyProof.Rows PySem.Calls
theorem isStr_is (x y : Str) (t : Tok) : (Value.str x t).isStr y = decide (x = y) := by
  show (x == y) = _
  rw [Bool.eq_iff_iff]; simp
noncomputable def allBut (h : Heap) (d L : Addr) : List (Addr × Obj) := (List.range h.objs.size).filterMap fun b => if b = d ∨ b = L then none else (h.get? b).map fun o => (b, o)
theorem allBut_of {h : Heap} {d L : Addr} {p : Addr × Obj} (hp : p ∈ allBut h d L) : h.get? p.1 = some p.2 ∧ p.1 ≠ d ∧ p.1 ≠ L := by
  obtain ⟨b, _, e⟩ := List.mem_filterMap.mp hp
  split at e
  · cases e
  · rename_i q
    revert e; refine mE fun o ho hrf => ?_; subst hrf
    exact ⟨ho, fun z => q (.inl z), fun z => q (.inr z)⟩
theorem mem_allBut {h : Heap} {d L b : Addr} {o : Obj} (e : h.get? b = some o) (n1 : b ≠ d) (n2 : b ≠ L) : (b, o) ∈ allBut h d L := by
  refine List.mem_filterMap.mpr ⟨b, List.mem_range.mpr (Heap.lt_size e), ?_⟩
  rw [if_neg (fun z => z.elim n1 n2), e]; rfl
theorem getL_keys {name : Str} {es : List DictEntry} (hk : ∀ e ∈ es, ∃ x t, e.key = .str x t) : getL name es = some ((es.find? (·.key.isStr name)).map (·.val)) := by
  unfold getL
  split
  · rename_i e he; rw [he]; rfl
  · rename_i he
    rw [he]
    have : es.any (·.refKey) = false := by
      rw [List.any_eq_false]
      intro e h
      obtain ⟨x, t, q⟩ := hk e h
      rw [show e.refKey = (match e.key with | .ref _ => true | _ => false) from rfl, q]
      simp
    rw [this]; rfl
theorem putL_keys {name : Str} {hs : Int} {t : Tok} {v : Value} : ∀ {es : List DictEntry}, (∀ e ∈ es, ∃ x t, e.key = .str x t) → ∀ e ∈ putL name hs (.str name t) v es, ∃ x t, e.key = .str x t
  | [], _, e, he => by
    rw [putL] at he
    rw [List.mem_singleton.mp he]
    exact ⟨_, _, rfl⟩
  | a :: r, hk, e, he => by
    rw [putL] at he
    split at he
    · rcases List.mem_cons.mp he with rfl | he
      · exact hk a (List.mem_cons_self ..)
      · exact hk e (List.mem_cons_of_mem _ he)
    · rcases List.mem_cons.mp he with rfl | he
      · exact hk _ (List.mem_cons_self ..)
      · exact putL_keys (fun e h => hk e (List.mem_cons_of_mem _ h)) e he
theorem find_put_self {name : Str} {hs : Int} {t : Tok} {v : Value} : ∀ (es : List DictEntry), ((putL name hs (.str name t) v es).find? (·.key.isStr name)).map (·.val) = some v
  | [] => by
    rw [putL, List.find?_cons]
    simp [isStr_is]
  | a :: r => by
    rw [putL]
    split
    · rename_i q; rw [List.find?_cons]; simp only [q]; rfl
    · rename_i q; rw [List.find?_cons]; simp only [q]; exact find_put_self r
theorem find_put_ne {name name' : Str} (hn : name ≠ name') {hs : Int} {t : Tok} {v : Value} : ∀ {es : List DictEntry}, (∀ e ∈ es, ∃ x t, e.key = .str x t) →
    ((putL name' hs (.str name' t) v es).find? (·.key.isStr name)).map (·.val) = (es.find? (·.key.isStr name)).map (·.val)
  | [], _ => by
    rw [putL, List.find?_cons]
    simp [isStr_is, Ne.symm hn]
  | a :: r, hk => by
    have ih := find_put_ne hn (hs := hs) (t := t) (v := v) (es := r) fun e h => hk e (List.mem_cons_of_mem _ h)
    obtain ⟨x, tx, hx⟩ := hk a (List.mem_cons_self ..)
    rw [putL]
    split
    · rename_i q
      rw [List.find?_cons, List.find?_cons]
      have : a.key.isStr name = false := by
        rw [hx, isStr_is] at q ⊢
        simp only [decide_eq_true_eq] at q
        rw [q]; simp [Ne.symm hn]
      simp only [this]
    · rw [List.find?_cons, List.find?_cons]
      split
      · rfl
      · exact ih
theorem putL_len {name : Str} {hs : Int} {t : Tok} {v : Value} : ∀ (es : List DictEntry), (putL name hs (.str name t) v es).length ≤ es.length + 1 ∧ ((es.find? (·.key.isStr name)).isSome = true → (putL name hs (.str name t) v es).length = es.length)
  | [] => ⟨by simp [putL], by simp⟩
  | a :: r => by
    obtain ⟨h1, h2⟩ := putL_len (name := name) (hs := hs) (t := t) (v := v) r
    rw [putL]
    split
    · exact ⟨by simp, fun _ => by simp⟩
    · rename_i q
      refine ⟨by simpa using h1, fun z => ?_⟩
      rw [List.find?_cons] at z
      simp only [q] at z
      simpa using h2 z
theorem getF_put (a b : Nat) (v : V) : ∀ fs : List (Nat × V), getF b (putF a v fs) = if b = a then some v else getF b fs
  | [] => by
    show (if a = b then some v else none) = _
    by_cases q : a = b
    · rw [if_pos q, if_pos q.symm]
    · rw [if_neg q, if_neg (Ne.symm q)]; rfl
  | (k, w) :: r => by
    have ih := getF_put a b v r
    rw [putF_cons]
    by_cases q : k = a
    · subst q
      rw [if_pos rfl, getF_cons, getF_cons]
      by_cases h : k = b
      · rw [if_pos h, if_pos h.symm]
      · rw [if_neg h, if_neg (Ne.symm h), if_neg h]
    · rw [if_neg q, getF_cons, getF_cons, ih]
      by_cases h : k = b
      · rw [if_pos h, if_pos h, if_neg (h ▸ q)]
      · rw [if_neg h, if_neg h]
theorem putF_len (a : Nat) (v : V) : ∀ fs : List (Nat × V), fs.length ≤ (putF a v fs).length ∧ (getF a fs = none → (putF a v fs).length = fs.length + 1)
  | [] => ⟨Nat.zero_le _, fun _ => rfl⟩
  | (k, w) :: r => by
    obtain ⟨h1, h2⟩ := putF_len a v r
    rw [putF_cons]
    by_cases q : k = a
    · rw [if_pos q]
      exact ⟨Nat.le_refl _, fun h => by rw [getF_cons, if_pos q] at h; cases h⟩
    · rw [if_neg q]
      exact ⟨Nat.succ_le_succ h1, fun h => by rw [getF_cons, if_neg q] at h; exact congrArg (· + 1) (h2 h)⟩
theorem anm_fin : ∀ a b : Fin 28, anm a.val = anm b.val → a = b := by decide +kernel
theorem anm_inj (a b : Nat) (ha : a < 28) (hb : b < 28) (e : anm a = anm b) : a = b := congrArg Fin.val (anm_fin ⟨a, ha⟩ ⟨b, hb⟩ e)
section
variable {c : Ctx} {F : CFun} {d n : Nat} {Γ : CE} {nx : Nat} {env env' : LE} {pe : Env} {A : Around} {E : Value → Shared → Prop} {s : Shared} {σ σ' : AH} {ρ : Rho}
theorem FsRep.put {h h' : Heap} {fs : List (Nat × V)} {es : List DictEntry} {a : Nat} {v : V} {u : Value} {hs : Int} {t : Tok} (r : FsRep h ρ fs es) (ha : a < 28) (rv : VRep h ρ v u) (x : Tr h ρ h' ρ) : FsRep h' ρ (putF a v fs) (putL (anm a) hs (.str (anm a) t) u es) := by
  have hk := putL_keys (name := anm a) (hs := hs) (t := t) (v := u) r.keys
  refine ⟨?_, hk, fun b w e => ?_, fun b w e => ?_⟩
  · obtain ⟨l1, l2⟩ := putL_len (name := anm a) (hs := hs) (t := t) (v := u) es
    obtain ⟨f1, f2⟩ := putF_len a v fs
    have := r.len
    cases q : getF a fs with
    | none => have := f2 q; lia
    | some w =>
      obtain ⟨u', e1, _⟩ := r.get a w q
      rw [getL_keys r.keys] at e1
      simp only [Option.some.injEq] at e1
      have : (es.find? (·.key.isStr (anm a))).isSome = true := by
        cases z : es.find? (·.key.isStr (anm a)) with
        | none => rw [z] at e1; cases e1
        | some _ => rfl
      have := l2 this
      lia
  · rw [getF_put] at e
    split at e
    · rename_i q; rw [q]; exact ha
    · exact r.small b w e
  · rw [getF_put] at e
    rw [getL_keys hk]
    split at e
    · rename_i q; subst q; cases e
      exact ⟨u, by rw [find_put_self], rv.tr x⟩
    · rename_i q
      obtain ⟨u', e1, e2⟩ := r.get b w e
      rw [getL_keys r.keys] at e1
      refine ⟨u', ?_, e2.tr x⟩
      rw [find_put_ne (fun z => q (anm_inj b a (r.small b w e) ha z)) r.keys]
      exact e1
theorem setAttr_s (W : World c) {o v : V} {a : Nat} {u w : Value} {Q : Unit → Shared → Prop} (P : Fp c Γ pe) (ha : a < 28) (I : Inv c σ ρ s.heap) (Fm : Frm c Γ env pe ρ s.heap) (r : VRep s.heap ρ o u) (rv : VRep s.heap ρ v w) (e : setAttrV o a v σ = some σ')
    (q : KontU c Γ pe env s ρ σ' Q) : wpAny (model c.prog c.w) A (setAttr u (anm a) w) Q E s := by
  · · obtain ⟨nn, C, fs, rfl, z, hlen, rfl⟩ := setAttrV_is e
      obtain ⟨p, hp, ro⟩ := I.at z
      obtain ⟨_, a1, rfl⟩ := objRef r
      obtain rfl := Option.some.inj (hp.symm.trans a1)
      cases ro with
      | inst l e1 e2 rf hne =>
        rename_i es kk
        have Cl := W.cls C l
        have Ia : PySem.W.InstAt s.heap p.1 (instObj (c.cls C) p.2) (c.cls C) (some (dictOf es kk)) := ⟨e1, rfl, rfl, e2⟩
        obtain ⟨m, hm, hg⟩ := Fm.ns
        have hdL : p.2 ≠ pe.locals := fun z => Fm.off (z ▸ Trk.snd hp)
        have F0 : Fr {} pe.locals s.heap m := ⟨hm, fun b o e => by simp [Heap.get?] at e, Nat.zero_le _⟩
        have N0 : News {} pe.locals s.heap ([] ++ (p.2, dictOf es kk) :: allBut s.heap p.2 pe.locals) := fun x hx => by
          rcases List.mem_cons.mp hx with rfl | hx
          · exact ⟨e2, hdL, by simp [Heap.get?]⟩
          · obtain ⟨b1, b2, b3⟩ := allBut_of hx
            exact ⟨b1, b3, by simp [Heap.get?]⟩
        have hle := rf.len
        have htk : takerIn c.K (c.cls C) (anm a) = some none := by
          unfold takerIn
          rw [Cl.no a ha]; rfl
        refine set_plain I.inK Ia Cl.set (osa_dict (s := { s with toks := s.toks + 1 }) F0 N0 I.inK Ia rfl Cl.over htk Cl.dict (by rw [lookIn_dict, getL_keys rf.keys]; rfl) (fun _ h => nomatch h) (fun x hx => (allBut_of hx).2.1)
          (putName_dict _ _ _ _ _ _) rfl ?_ fun h' F' N' => ?_)
        · have := (putL_len (name := anm a) (hs := PyData.keyHash c.w.params (anm a)) (t := s.toks + 1) (v := w) es).1
          show (putL (anm a) (PyData.keyHash c.w.params (anm a)) (.str (anm a) (s.toks + 1)) w es).length ≤ 1000
          lia
        · have but : ∀ b x, b ≠ p.1 → b ≠ p.2 → b ≠ pe.locals → s.heap.get? b = some x → h'.get? b = some x := fun b x _ n2 n3 e => (N' (b, x) (List.mem_cons_of_mem _ (mem_allBut e n2 n3))).1
          have e1' : h'.get? p.1 = some (instObj (c.cls C) p.2) := (N' (p.1, instObj (c.cls C) p.2) (List.mem_cons_of_mem _ (mem_allBut e1 hne (fun z => Fm.off (z ▸ Trk.fst hp))))).1
          have e2' := (N' _ (List.mem_cons_self ..)).1
          obtain ⟨I', tr⟩ := I.upd2 (o := .inst C (putF a v fs)) hp (NotT.ns hm) Fm.off P.lo but fun tr => .inst l e1' e2' (rf.put ha rv tr) hne
          have cellk : ∀ b x, OffP Γ pe b → ¬ Trk ρ b → s.heap.get? b = some x → h'.get? b = some x := fun b x f t e => but b x (fun z => t (z ▸ Trk.fst hp)) (fun z => t (z ▸ Trk.snd hp)) f.1 e
          refine q h' _ ⟨⟨[], by simp, fun _ h => nomatch h⟩, fun b o t f e => cellk b o f t e⟩ I' ?_ (fun C' m' f t h => h.at' fun o e => cellk C' o f t e)
          refine Frm.tr Fm tr Fm.off (fun y k a b1 b2 b3 => ?_) (fun m' hm' => ?_) (fun y k a w' b1 b2 b3 hc => ?_)
          · obtain ⟨a', w', q1, q2, _⟩ := Fm.cell y k b1 b2
            rw [b3] at q1; cases q1; exact q2
          · have : m' = m := by
              funext y
              obtain ⟨o1, es1, ep1, g1, g2, _, g3⟩ := hm
              obtain ⟨o2, es2, ep2, k1, k2, _, k3⟩ := hm'
              rw [g1] at k1; cases k1
              rw [g2] at k2; cases k2
              rw [← k3, ← g3]
            rw [this]; exact F'.ns
          · obtain ⟨a', w', q1, q2, q3, _⟩ := Fm.cell y k b1 b2
            rw [b3] at q1; cases q1
            obtain ⟨oc, h1, h2⟩ := hc
            exact ⟨oc, but _ _ (fun z => q2 (z ▸ Trk.fst hp)) (fun z => q2 (z ▸ Trk.snd hp)) q3 h1, h2⟩
end
end Mine
namespace Mine
open PySem PySem.W PyProof.Rows PySem.Calls
section
variable {c : Ctx} {F : CFun} {d n : Nat} {Γ : CE} {nx : Nat} {env env' : LE} {pe : Env} {A : Around} {E : Value → Shared → Prop} {s : Shared} {σ σ' : AH} {ρ : Rho}
theorem KontU.ext {Q : Unit → Shared → Prop} {h' : Heap} {tk : Nat} (q : KontU c Γ pe env s ρ σ' Q) (Fm : Frm c Γ env pe ρ s.heap) (x : Ext s.heap ρ h' ρ) (I : Inv c σ' ρ h') : Q () { s with heap := h', toks := tk } :=
  q h' tk (SX.of x) I (Fm.ext x) fun C m f t h => h.at' fun o e => x.keep C o t e
theorem setSub_s {o i v : V} {u ui w : Value} {Q : Unit → Shared → Prop} (I : Inv c σ ρ s.heap) (Fm : Frm c Γ env pe ρ s.heap) (r : VRep s.heap ρ o u) (ri : VRep s.heap ρ i ui) (rv : VRep s.heap ρ v w) (e : setSubV o i v σ = some σ')
    (q : KontU c Γ pe env s ρ σ' Q) : wpAny (model c.prog c.w) A (setItem u ui w) Q E s := by
  · · obtain ⟨nn, k, vs, rfl, rfl, z, ⟨k0, k1, k2⟩, rfl⟩ := setSubV_is e
      obtain ⟨p, us, kn, hp, ho, rl, hd⟩ := listAt_at I (by delta listAt; rw [z] : listAt σ nn = some vs)
      obtain ⟨_, a1, rfl⟩ := objRef r
      obtain rfl := Option.some.inj (hp.symm.trans a1)
      obtain ⟨_, rfl⟩ := intRef ri
      have hl := rl.length
      refine ki_setAt (items := us.toArray) (n := kn) ho k0 (by lia) (by rw [List.size_toArray]; lia) ?_
      have e1 : us.toArray.setIfInBounds k.toNat w = (us.set k.toNat w).toArray := by
        apply Array.toList_inj.mp; simp
      obtain ⟨n', hd'⟩ := Obj.data_mapSeq (o := lstObj us kn) rfl (·.setIfInBounds k.toNat w)
      have ho' : ∃ n', (s.heap.update p.1 (Obj.mapSeq fun x => x.setIfInBounds k.toNat w)).get? p.1 = some (lstObj (us.set k.toNat w) n') := by
        refine ⟨if (us.toArray.setIfInBounds k.toNat w).size == us.toArray.size then kn else kn + 1, (Heap.get?_update_self _ ho (Obj.isFreed_of_seq hd')).trans ?_⟩
        unfold lstObj
        rw [← e1]
        rfl
      obtain ⟨n2, ho'⟩ := ho'
      obtain ⟨I', x'⟩ := setL I hp hd (Heap.SameBut.update ..) ho' (vs := vs.set k.toNat v) fun x => (rl.ext x).set (rv.ext x) _
      exact KontU.ext (tk := s.toks) q Fm x' I'
theorem find_map (k : Str) (v : Value) : ∀ (kvs : List (Str × Value)) (y : Str), (kvs.map (fun kv => if kv.1 = k then (kv.1, v) else kv)).find? (fun kv => kv.1 = y) = (kvs.find? fun kv => kv.1 = y).map fun kv => if kv.1 = k then (kv.1, v) else kv
  | [], _ => rfl
  | a :: r, y => by
    have ih := find_map k v r y
    rw [List.map_cons, List.find?_cons, List.find?_cons]
    have : (if a.1 = k then (a.1, v) else a).1 = a.1 := by split <;> rfl
    rw [this]
    cases decide (a.1 = y) with
    | true => rfl
    | false => exact ih
theorem valueAt_stored (kvs : List (Str × Value)) (k y : Str) (v : Value) : valueAt (stored kvs k v) y = if y = k then some v else valueAt kvs y := by
  unfold stored
  by_cases h : kvs.any (fun kv => kv.1 = k) = true
  · rw [if_pos h]
    unfold valueAt
    rw [find_map]
    by_cases hy : y = k
    · subst hy
      obtain ⟨a, ha, hb⟩ := List.any_eq_true.mp h
      have hb' : a.1 = y := by simpa using hb
      cases q : kvs.find? (fun kv => kv.1 = y) with
      | none =>
        have := List.find?_eq_none.mp q a ha
        simp [hb'] at this
      | some b =>
        have := List.find?_some q
        simp only [decide_eq_true_eq] at this
        simp [this]
    · rw [if_neg hy]
      cases q : kvs.find? (fun kv => kv.1 = y) with
      | none => rfl
      | some b =>
        have := List.find?_some q
        simp only [decide_eq_true_eq] at this
        have hbk : b.1 ≠ k := fun z => hy (this ▸ z)
        simp [hbk]
  · rw [if_neg h]
    unfold valueAt
    rw [List.find?_append]
    by_cases hy : y = k
    · subst hy
      have : kvs.find? (fun kv => kv.1 = y) = none := by
        rw [List.find?_eq_none]
        intro a ha hb
        exact h (List.any_eq_true.mpr ⟨a, ha, hb⟩)
      rw [this]; simp
    · rw [if_neg hy]
      cases q : kvs.find? (fun kv => kv.1 = y) with
      | none => simp [Ne.symm hy]
      | some b => simp
theorem setKey_s {o v : V} {a : Nat} {u w : Value} {t : Tok} {Q : Unit → Shared → Prop} (ha : a < 28) (I : Inv c σ ρ s.heap) (Fm : Frm c Γ env pe ρ s.heap) (r : VRep s.heap ρ o u) (rv : VRep s.heap ρ v w) (e : setKeyV o a v σ = some σ')
    (q : KontU c Γ pe env s ρ σ' Q) : wpAny (model c.prog c.w) A (setItem u (.str (anm a) t) w) Q E s := by
  · · · obtain ⟨nn, fs, v0, rfl, z, hv0, rfl⟩ := setKeyV_is e
        obtain ⟨p, hp, ro⟩ := I.at z
        obtain ⟨_, a1, rfl⟩ := objRef r
        obtain rfl := Option.some.inj (hp.symm.trans a1)
        cases ro with
        | dict e1 rf d =>
          rename_i kvs
          have hlen := rf.len
          refine wpAny_setItem_pairs (strKind_is _ _ _ _) e1 (fun h' hm' hs' => ?_) (by rw [sizeLine_is]; lia)
          have hany : kvs.any (fun kv => kv.1 = anm a) = true := by
            obtain ⟨u0, hu0, _⟩ := rf.get a v0 hv0
            unfold valueAt at hu0
            cases zf : kvs.find? (fun kv => kv.1 = anm a) with
            | none => rw [zf] at hu0; cases hu0
            | some b => exact List.any_eq_true.mpr ⟨b, List.mem_of_find?_eq_some zf, by simpa using List.find?_some (p := fun kv : Str × Value => decide (kv.1 = anm a)) zf⟩
          have hl' : (stored kvs (anm a) w).length ≤ 100 := by
            unfold stored
            rw [if_pos hany, List.length_map]; exact hlen
          obtain ⟨I', x'⟩ := I.upd (o := .dict (putF a v fs)) hp (fun b _ b1 _ e => (hs'.2 b b1).trans e) fun x => .dict hm' ⟨hl', fun b v' eb => by
            rw [getF_put] at eb
            revert eb; refine dE (fun zz _ => ?_) (fun _ eb => rf.small b v' eb)
            rw [zz]; exact ha, fun b v' eb => by
            rw [valueAt_stored]
            rw [getF_put] at eb
            revert eb; refine dE (fun zz eb => ?_) (fun zz eb => ?_)
            · subst zz
              obtain rfl := Option.some.inj eb
              exact ⟨w, if_pos rfl, rv.ext x⟩
            · obtain ⟨ub, h1, h2⟩ := rf.get b v' eb
              refine ⟨ub, ?_, h2.ext x⟩
              rw [if_neg (fun y => zz (anm_inj b a (rf.small b v' eb) ha y))]
              exact h1⟩ d
          exact KontU.ext (tk := s.toks + 1) q Fm x' I'
theorem items_of {o : V} {u : Value} {vs : List V} {Q : List Value → Shared → Prop} (hh : A.handled = none) (I : Inv c σ ρ s.heap) (r : VRep s.heap ρ o u) (e : unpV o σ = some vs)
    (q : ∀ us h', VsRep h' ρ vs us → Ext s.heap ρ h' ρ → Inv c σ ρ h' → Q us { s with heap := h' }) : wpAny (model c.prog c.w) A (unpackItems u vs.length none) Q E s := by
  have all : ∀ {h' : Heap}, Heap.ExtBut s.heap.objs.size s.heap h' → ∀ b o, s.heap.get? b = some o → h'.get? b = some o := fun hx b o e => hx b o (Nat.ne_of_lt (Heap.lt_size e)) e
  rcases unpV_is e with rfl | ⟨n, rfl, e⟩
  · obtain ⟨a, us, k, rfl, ho, hn, rr⟩ := tupRef r
    rw [rr.length, ← List.size_toArray]
    refine unpackItems_tuple hh ⟨_, ho, rfl, _, rfl⟩ fun h' hx => ?_
    exact q us h' (rr.ext (Ext.all (all hx))) (Ext.all (all hx)) (I.all (all hx))
  · obtain ⟨p, us, kn, hp, ho, rr, _⟩ := listAt_at I e
    obtain ⟨_, a1, rfl⟩ := objRef r
    obtain rfl := Option.some.inj (hp.symm.trans a1)
    rw [rr.length, ← List.size_toArray]
    refine kun_itemsOf hh (lst_isList ho) fun h' hx => ?_
    exact q us h' (rr.ext (Ext.all (all hx))) (Ext.all (all hx)) (I.all (all hx))
end
end Mine
namespace Mine
open PySem PySem.W PyProof.Rows PySem.Calls
inductive FlR (h : Heap) (ρ : Rho) : Fl → Flow → Prop
  | next : FlR h ρ .next .next
  | brk : FlR h ρ .brk .brk
  | cont : FlR h ρ .cont .cont
  | ret {v : V} {u : Value} (r : VRep h ρ v u) : FlR h ρ (.ret v) (.ret u)
noncomputable abbrev KontS (c : Ctx) (Γ : CE) (pe : Env) (s : Shared) (ρ : Rho) (fl : Fl) (env' : LE) (σ' : AH) (Q : Flow → Shared → Prop) : Prop :=
  ∀ f ρ' h' tk, SX Γ pe s.heap ρ h' ρ' → Inv c σ' ρ' h' → Frm c Γ env' pe ρ' h' → FlR h' ρ' fl f → Q f { s with heap := h', toks := tk }
section
variable {c : Ctx} {F : CFun} {d n : Nat} {Γ : CE} {nx : Nat} {env env' env₁ : LE} {pe : Env} {A : Around} {E : Value → Shared → Prop} {s : Shared} {σ σ' σ₁ : AH} {ρ : Rho} {fl : Fl}
theorem SX.go {h h' h'' : Heap} {ρ ρ' ρ'' : Rho} (x : SX Γ pe h ρ h' ρ') (I : Inv c σ₁ ρ' h') (Fm : Frm c Γ env₁ pe ρ' h') (y : SX Γ pe h' ρ' h'' ρ'') : SX Γ pe h ρ h'' ρ'' := by
  obtain ⟨n, rfl, hn⟩ := x.new
  obtain ⟨m, rfl, hm⟩ := y.new
  have gone : ∀ a : Addr, h'.get? a = none → h.get? a = none := fun a e => by
    cases q : h.get? a with
    | none => rfl
    | some o =>
      by_cases t : Trk ρ a
      · exact absurd (Trk.app.mpr (.inl t)) (I.fresh e)
      · rw [x.keep a o t (Fm.own e) q] at e; cases e
  refine ⟨⟨n ++ m, by simp, fun p hp => ?_⟩, fun b o t f e => y.keep b o (fun q => x.off e t q) f (x.keep b o t f e)⟩
  rcases List.mem_append.mp hp with q | q
  · exact hn p q
  · exact ⟨gone _ (hm p q).1, gone _ (hm p q).2⟩
theorem KontS.tail {Q : Flow → Shared → Prop} {h₁ : Heap} {ρ₁ : Rho} {t₁ : Nat} (k : KontS c Γ pe s ρ fl env' σ' Q) (x : SX Γ pe s.heap ρ h₁ ρ₁) (I : Inv c σ₁ ρ₁ h₁) (Fm : Frm c Γ env₁ pe ρ₁ h₁) : KontS c Γ pe { s with heap := h₁, toks := t₁ } ρ₁ fl env' σ' Q :=
  fun f ρ' h' tk y I' F' r => k f ρ' h' tk (x.go I Fm y) I' F' r
theorem KontU.tail {Q : Unit → Shared → Prop} {h₁ : Heap} {t₁ : Nat} (k : KontU c Γ pe env' s ρ σ' Q) (x : SX Γ pe s.heap ρ h₁ ρ) (I : Inv c σ₁ ρ h₁) (Fm : Frm c Γ env₁ pe ρ h₁) (ns : ∀ C m, OffP Γ pe C → ¬ Trk ρ C → s.heap.Ns C m → h₁.Ns C m) :
    KontU c Γ pe env' { s with heap := h₁, toks := t₁ } ρ σ' Q :=
  fun h' tk y I' F' ns' => k h' tk (x.go I Fm y) I' F' fun C m o t e => ns' C m o t (ns C m o t e)
theorem KontS.unit {Q : Flow → Shared → Prop} (k : KontS c Γ pe s ρ .next env' σ' Q) : KontU c Γ pe env' s ρ σ' (fun _ => Q .next) :=
  fun h' tk x I F _ => k .next ρ h' tk x I F .next
structure Bn1 (c : Ctx) (Γ : CE) (pe : Env) (A : Around) (f : Value → Sem Unit) (k : Nat) (id : Str) : Prop where
  hv : cVar Γ id = some k
  hf : ∀ (u : Value) (Q : Unit → Shared → Prop) (E : Value → Shared → Prop) (s : Shared), wpAny (model c.prog c.w) A (storeName pe id u) Q E s → wpAny (model c.prog c.w) A (f u) Q E s
noncomputable def Bnd (c : Ctx) (Γ : CE) (pe : Env) (A : Around) : List (Value → Sem Unit) → List Nat → Prop
  | [], ks => ks = []
  | f :: fs, ks => ∃ k r, ks = k :: r ∧ (∃ id, Bn1 c Γ pe A f k id) ∧ Bnd c Γ pe A fs r
theorem Bnd.nil : Bnd c Γ pe A [] [] := rfl
theorem Bnd.cons {f : Value → Sem Unit} {fs : List (Value → Sem Unit)} {k : Nat} {ks : List Nat} (id : Str) (hv : cVar Γ id = some k)
      (hf : ∀ (u : Value) (Q : Unit → Shared → Prop) (E : Value → Shared → Prop) (s : Shared), wpAny (model c.prog c.w) A (storeName pe id u) Q E s → wpAny (model c.prog c.w) A (f u) Q E s) (t : Bnd c Γ pe A fs ks) : Bnd c Γ pe A (f :: fs) (k :: ks) := ⟨k, ks, rfl, ⟨id, hv, hf⟩, t⟩
theorem Bnd.app : ∀ {fs gs : List (Value → Sem Unit)} {ks ls : List Nat}, Bnd c Γ pe A fs ks → Bnd c Γ pe A gs ls → Bnd c Γ pe A (fs ++ gs) (ks ++ ls)
  | [], _, _, _, h, r => by rw [show _ = [] from h]; exact r
  | f :: fs, _, _, _, ⟨k, ks, e, q, t⟩, r => by subst e; exact ⟨k, _, rfl, q, Bnd.app t r⟩
theorem Bnd.rev : ∀ {fs : List (Value → Sem Unit)} {ks : List Nat}, Bnd c Γ pe A fs ks → Bnd c Γ pe A fs.reverse ks.reverse
  | [], _, h => by rw [show _ = [] from h]; exact rfl
  | f :: fs, _, ⟨k, ks, e, q, t⟩ => by
    subst e
    rw [List.reverse_cons, List.reverse_cons]
    exact (Bnd.rev t).app ⟨k, [], rfl, q, rfl⟩
theorem bind_s (P : Fp c Γ pe) : ∀ {fs : List (Value → Sem Unit)} {ks : List Nat}, Bnd c Γ pe A fs ks → ∀ (vs : List V) (us : List Value) (env env' : LE) (s : Shared) (Q : Unit → Shared → Prop), bindAll ks vs env = some env' → VsRep s.heap ρ vs us →
    Inv c σ ρ s.heap → Frm c Γ env pe ρ s.heap → KontU c Γ pe env' s ρ σ Q → wpAny (model c.prog c.w) A (assignInOrder fs us) Q E s := by
  intro fs
  induction fs with
  | nil =>
    intro ks hb vs us env env' s Q e r I Fm q
    obtain rfl : ks = [] := hb
    cases vs with
    | nil =>
      obtain rfl := Option.some.inj e
      obtain rfl := r.invN
      exact wpAny_pure (q s.heap s.toks SX.refl I Fm fun _ _ _ _ h => h)
    | cons => exact zE e
  | cons f fs ih =>
    intro ks hb vs us env env' s Q e r I Fm q
    obtain ⟨k, ks, rfl, ⟨id, hv, hf⟩, t⟩ := hb
    cases vs with
    | nil => exact zE e
    | cons v vs =>
      obtain ⟨u, us, rfl, r1, rs⟩ := r.invC
      · refine wpAny_bind (wpAny_holding (hf _ _ _ _ (store_s P hv I Fm r1 fun h' tk x I' F' ns => ?_)))
        exact ih t vs _ _ _ _ _ e (rs.tr (x.tr Fm)) I' F' (KontU.tail (t₁ := tk) q x I' F' ns)
theorem bindAll_app : ∀ (ks : List Nat) (vs : List V) (k : Nat) (v : V) (env : LE), ks.length = vs.length → bindAll (ks ++ [k]) (vs ++ [v]) env = (bindAll ks vs env).map (·.set k (some v))
  | [], [], k, v, env, _ => rfl
  | [], _ :: _, _, _, _, h => by simp at h
  | _ :: _, [], _, _, _, h => by simp at h
  | a :: ks, b :: vs, k, v, env, h => by
    rw [List.cons_append, List.cons_append, bindAll_cons, bindAll_cons]
    exact bindAll_app ks vs k v _ (by simpa using h)
theorem bindAll_set : ∀ (ks : List Nat) (vs : List V) (k : Nat) (v : V) (env : LE), k ∉ ks → bindAll ks vs (env.set k (some v)) = (bindAll ks vs env).map (·.set k (some v))
  | [], [], k, v, env, _ => rfl
  | [], _ :: _, _, _, _, h => rfl
  | _ :: _, [], _, _, _, h => rfl
  | a :: ks, b :: vs, k, v, env, h => by
    have ha : k ≠ a := fun z => h (z ▸ List.mem_cons_self ..)
    rw [bindAll_cons, bindAll_cons, List.set_comm _ _ ha]
    exact bindAll_set ks vs k v _ fun z => h (List.mem_cons_of_mem _ z)
theorem bindAll_len : ∀ (ks : List Nat) (vs : List V) (env env' : LE), bindAll ks vs env = some env' → ks.length = vs.length
  | [], [], _, _, _ => rfl
  | [], _ :: _, _, _, h => by cases h
  | _ :: _, [], _, _, h => by cases h
  | a :: ks, b :: vs, env, env', h => by
    simpa using bindAll_len ks vs _ _ h
theorem bindAll_rev : ∀ (ks : List Nat) (vs : List V) (env : LE), ks.Nodup → ks.length = vs.length → bindAll ks.reverse vs.reverse env = bindAll ks vs env
  | [], [], _, _, _ => rfl
  | [], _ :: _, _, _, h => by simp at h
  | _ :: _, [], _, _, h => by simp at h
  | a :: ks, b :: vs, env, hn, h => by
    have h' : ks.length = vs.length := by simpa using h
    obtain ⟨h1, h2⟩ := List.nodup_cons.mp hn
    rw [List.reverse_cons, List.reverse_cons, bindAll_app _ _ _ _ _ (by simpa using h'), bindAll_rev ks vs env h2 h', bindAll_cons, bindAll_set _ _ _ _ _ h1]
theorem names_s (P : Fp c Γ pe) : ∀ {ts : List Expr} {ids : List Str} {ks : List Nat}, names1 ts = some ids → cSlots Γ ts = some ks →
    Bnd c Γ pe A ((assignEach ts pe).map (·.2)) ks ∧ Bnd c Γ pe A (ids.map fun x => bindName pe x) ks ∧ ks.Nodup ∧ (∀ x k, cVar Γ x = some k → k ∈ ks → x ∈ ids) ∧ (assignEach ts pe).length = ts.length ∧ (assignEach ts pe).findIdx? (·.1) = none ∧ ids.length = ts.length ∧ ks.length = ts.length
  | [], ids, ks, h1, h2 => by
    cases h1; cases h2
    exact ⟨.nil, .nil, List.nodup_nil, fun _ _ _ h => (by cases h), rfl, rfl, rfl, rfl⟩
  | t :: ts, ids, ks, h1, h2 => by
        revert h1; refine bE fun q hq h1 => ?_
        revert h1; refine bE fun l hl h1 => ?_
        revert h2; refine bE fun q' hq' h2 => ?_
        obtain rfl := Option.some.inj (hq.symm.trans hq')
        obtain ⟨id, p, rfl⟩ := q
        revert h2; refine bE fun k hk h2 => ?_
        revert h2; refine bE fun l' hl' h2 => ?_
        obtain rfl := Option.some.inj h2
        revert h1; refine eE fun hc h1 => ?_
        obtain rfl := Option.some.inj h1
        have hc' : id ∉ l := by simpa using hc
        obtain ⟨b1, b2, b3, b4, b5, b6, b7, b8⟩ := names_s P hl hl'
        have e0 : assignEach (.Name id p :: ts) pe = (false, assign (.Name id p) pe) :: assignEach ts pe := rfl
        have vars : ∀ {x : Str} {k : Nat}, cVar Γ x = some k → Γ.vars.lookup x = some k := fun {x k} h => by
          exact (cVar_is h).1
        refine ⟨?_, ?_, ?_, ?_, ?_, ?_, ?_, ?_⟩
        · rw [e0, List.map_cons]
          exact .cons id hk (fun u Q E s h => wpAny_assign_Name h) b1
        · exact .cons id hk (fun u Q E s h => wpAny_bindName h) b2
        · refine List.nodup_cons.mpr ⟨fun z => hc' (b4 id k hk z), b3⟩
        · intro x k' hx hm
          rcases List.mem_cons.mp hm with rfl | hm
          · rw [P.inj x id _ (vars hx) (vars hk)]; exact List.mem_cons_self ..
          · exact List.mem_cons_of_mem _ (b4 x k' hx hm)
        · rw [e0]; simp [b5]
        · rw [e0, List.findIdx?_cons, b6]; rfl
        · simp [b7]
        · simp [b8]
theorem attrs_s (W : World c) (P : Fp c Γ pe) : ∀ {ts : List Expr} {tks : List (Nat × Nat)}, cAttrs aidx Γ ts = some tks → ∀ (vs : List V) (us : List Value) (σ σ' : AH) (s : Shared) (Q : Unit → Shared → Prop), setAll tks vs env σ = some σ' → VsRep s.heap ρ vs us →
    Inv c σ ρ s.heap → Frm c Γ env pe ρ s.heap → KontU c Γ pe env s ρ σ' Q → wpAny (model c.prog c.w) A (assignInOrder ((assignEach ts pe).map (·.2)) us) Q E s
  | [], tks, h, [], us, σ, σ', s, Q, e, r, I, Fm, q => by
    cases h; cases e; cases r
    exact wpAny_pure (q s.heap s.toks SX.refl I Fm fun _ _ _ _ h => h)
  | [], tks, h, _ :: _, us, σ, σ', s, Q, e, r, I, Fm, q => by cases h; cases e
  | t :: ts, tks, h, vs, us, σ, σ', s, Q, e, r, I, Fm, q => by
        revert h; refine bE fun q _ h => ?_
        obtain ⟨⟨o, a, ap⟩, rfl⟩ := q
        revert h; refine bE fun q _ h => ?_
        obtain ⟨id, np, hnm⟩ := q
        obtain rfl : o = _ := hnm
        revert h; refine eE fun hd1 h => ?_
        revert h; refine eE fun hd2 h => ?_
        revert h; refine bE fun k hk h => ?_
        revert h; refine bE fun a' ha h => ?_
        revert h; refine bE fun l hl h => ?_
        have ih := fun (vs : List V) (us : List Value) (σ σ' : AH) (s : Shared) (Q : Unit → Shared → Prop) => attrs_s W P hl vs us σ σ' s Q
        obtain rfl := Option.some.inj h
        cases vs with
        | nil => exact zE e
        | cons v vs =>
          obtain ⟨u0, us, rfl, r1, rs⟩ := r.invC
          · revert e; refine bE fun o ho e => ?_
            revert e; refine bE fun σ₂ hσ e => ?_
            obtain ⟨l28, han⟩ := W.inj a a' ha
            show wpAny _ A (do holding _ (assign (.Attribute (.Name id np) a ap) pe _); assignInOrder ((assignEach ts pe).map (·.2)) _) Q E s
            refine wpAny_bind (wpAny_holding ?_)
            show wpAny _ A (do
              let ov ← holding [_] (eval (.Name id np) pe)
              standAt ap.atName
              holding [_, ov] (setAttr ov a _)
              release [_, ov] []) _ E s
            refine wpAny_bind (wpAny_holding (wpAny_Name (load_q Fm hk ho hd2 fun u ro => ?_) hd1))
            refine wpAny_bind (wpAny_standAt (wpAny_bind (wpAny_holding ?_)))
            rw [← han]
            refine setAttr_s W P l28 I Fm ro r1 hσ fun h' tk x I' F' ns => wpAny_release ?_
            exact ih _ _ _ _ _ _ e (rs.tr (x.tr Fm)) I' F' (KontU.tail (t₁ := tk) q x I' F' ns)
end
end Mine
namespace Mine
open PySem PySem.W PyProof.Rows PySem.Calls
section
variable {c : Ctx} {F : CFun} {d n : Nat} {Γ : CE} {nx : Nat} {env env' env₁ : LE} {pe : Env} {A : Around} {E : Value → Shared → Prop} {s : Shared} {σ σ' σ₁ : AH} {ρ : Rho} {fl : Fl}
noncomputable def nmOf (pe : Env) (line : Nat) : Expr → Option Str
  | .Name id pos => if pe.kindOf id == some .local && pos.line == line then some id else none
  | _ => none
theorem nmOf_is {pe : Env} {line : Nat} {t : Expr} {x : Str} (h : nmOf pe line t = some x) : ∃ p, t = .Name x p := by
  cases t with
  | Name id p => exact iE (fun _ h => ⟨p, by rw [Option.some.inj h]⟩) h
  | _ => exact zE h
theorem nmOf_full (line : Nat) : ∀ ts : List Expr, (ts.filterMap (nmOf pe line)).length ≤ ts.length ∧ ((ts.filterMap (nmOf pe line)).length = ts.length → (∀ ids, names1 ts = some ids → ts.filterMap (nmOf pe line) = ids) ∧ (∀ tks, cAttrs aidx Γ ts = some tks → ts = []))
  | [] => ⟨Nat.le_refl _, fun _ => ⟨fun ids h => by cases h; rfl, fun _ _ => rfl⟩⟩
  | t :: ts => by
    obtain ⟨h1, h2⟩ := nmOf_full line ts
    rw [List.filterMap_cons]
    cases q : nmOf pe line t with
    | none => exact ⟨Nat.le_succ_of_le h1, fun e => by simp at e; lia⟩
    | some x =>
      refine ⟨by simpa using h1, fun e => ?_⟩
      obtain ⟨h3, h4⟩ := h2 (by simpa using e)
      obtain ⟨p, rfl⟩ := nmOf_is q
      refine ⟨fun ids h => ?_, fun tks h => zE h⟩
      revert h; refine bE fun q hq h => ?_
      obtain rfl := Option.some.inj hq
      revert h; refine bE fun l hl h => ?_
      revert h; refine eE fun _ h => ?_
      obtain rfl := Option.some.inj h
      rw [h3 l hl]
theorem swapped_is {ts : List Expr} {a : Nat} {b : Pos} {value : Expr} (h : swOk value = true) : swappedStores [.Tuple ts a b] value pe = pure none ∨
    ∃ line, (ts.filterMap (nmOf pe line)).length = ts.length ∧ swappedStores [.Tuple ts a b] value pe = pure (some (ts.filterMap (nmOf pe line))) ∧ ts ≠ [] := by
  unfold swappedStores
  cases value with
  | Tuple vs _ _ =>
    dsimp only
    split
    · exact .inl rfl
    · rename_i c1
      split
      · exact .inl rfl
      · split
        · exact .inl rfl
        · rename_i c3
          split
          · exact .inl rfl
          · rename_i c4
            split
            · rename_i c5
              exfalso
              have h : (!(vs.all (constantsAlone 8)) || vs.all (foldedForSure 8)) = true := h
              rw [c5] at h
              exact c4 h
            · refine .inr ⟨_, ?_, rfl, ?_⟩
              · simp only [Bool.or_eq_true, bne_iff_ne, ne_eq, not_or, Decidable.not_not] at c3
                exact c3.1
              · rintro rfl
                simp at c1
  | _ => exact .inl rfl
theorem assign_names (P : Fp c Γ pe) (hh : A.handled = none) {ts : List Expr} {tk0 : Nat} {tp : Pos} {ids : List Str} {ks : List Nat} {o : V} {u : Value} {vs : List V} {Q : Unit → Shared → Prop} (h1 : names1 ts = some ids) (h2 : cSlots Γ ts = some ks)
    (I : Inv c σ ρ s.heap) (Fm : Frm c Γ env pe ρ s.heap) (r : VRep s.heap ρ o u) (ho : unpV o σ = some vs) (hb : bindAll ks vs env = some env') (q : KontU c Γ pe env' s ρ σ Q) : wpAny (model c.prog c.w) A (assign (.Tuple ts tk0 tp) pe u) Q E s := by
  obtain ⟨b1, _, _, _, b5, b6, _, b8⟩ := names_s (A := A) P h1 h2
  have hl := bindAll_len ks vs env env' hb
  show wpAny _ A (do standAt tp; unpack u (assignEach ts pe)) Q E s
  refine wpAny_bind (wpAny_standAt ?_)
  unfold unpack
  rw [b6, b5, ← b8, hl]
  refine wpAny_bind (wpAny_holding (items_of hh I r ho fun us h' rs x I' => ?_))
  exact bind_s P b1 vs us env env' _ Q hb rs I' (Fm.ext x) (KontU.tail (t₁ := s.toks) q (SX.of x) I' (Fm.ext x) fun C m f t h => h.at' fun o e => x.keep C o t e)
theorem asg1 {t v : Expr} {pos : Pos} {Q : Flow → Shared → Prop} (hc : isComp v = false) (hw : swappedStores [t] v pe = pure none) (ht : assignEach [t] pe = [(false, assign t pe)])
    (h : wpAny (model c.prog c.w) A (eval v pe) (fun u s₁ => wpAny (model c.prog c.w) A (assign t pe u) (fun _ => Q .next) E s₁) E s) : wpAny (model c.prog c.w) A (exec (.Assign [t] v pos) pe) Q E s := by
  rw [arm_exec_Assign]
  have e : swapsWithSole [t] v pos.line pe = pure false := by
    show swapsWith v (some t) pos.line pe = pure false
    cases v <;> first | rfl | exact tE hc
  refine wpAny_bind (wpAny_standAt ?_)
  rw [e, hw, ht]
  refine wpAny_bind (wpAny_pure ?_)
  simp only [Bool.false_eq_true, if_false]
  refine wpAny_bind (wpAny_mono h (fun u s₁ h₁ => ?_) fun _ _ x => x)
  exact wpAny_bind (wpAny_pure (wpAny_bind (wpAny_mono h₁ (fun _ s₂ h₂ => wpAny_pure h₂) fun _ _ x => x)))
noncomputable def SSt (c : Ctx) (F : CFun) (d n : Nat) : Prop := ∀ (Γ : CE) (nx : Nat) (st : Stmt) (is : IS), cS glb aidx n Γ nx st = some is → ∀ (A : Around) (pe : Env) (env : LE) (s : Shared) (σ : AH) (ρ : Rho) (fl : Fl) (env' : LE) (σ' : AH) (Q : Flow → Shared → Prop) (E : Value → Shared → Prop),
  Room A d → Fp c Γ pe → Inv c σ ρ s.heap → Frm c Γ env pe ρ s.heap → exS initOf F is env σ = some (fl, env', σ') → KontS c Γ pe s ρ fl env' σ' Q → wpAny (model c.prog c.w) A (exec st pe) Q E s
theorem block_s (hS : SSt c F d n) (R : Room A d) (P : Fp c Γ pe) : ∀ (b : List Stmt) (is : ISs), cSs (cS glb aidx n Γ nx) b = some is → ∀ (s : Shared) (σ : AH) (ρ : Rho) (env : LE) (Q : Flow → Shared → Prop),
    Inv c σ ρ s.heap → Frm c Γ env pe ρ s.heap → exSs initOf F is env σ = some (fl, env', σ') → KontS c Γ pe s ρ fl env' σ' Q → wpAny (model c.prog c.w) A (execs b pe) Q E s
  | [], is, h, s, σ, ρ, env, Q, I, Fm, e, k => by
    cases h
    cases (show some _ = some _ from e)
    exact wpAny_execs_nil (k .next ρ s.heap s.toks SX.refl I Fm .next)
  | st :: b, is, h, s, σ, ρ, env, Q, I, Fm, e, k => by
    revert h; refine bE fun i1 h1 h => ?_
    revert h; refine bE fun i2 h2 h => ?_
    have ih := fun (s : Shared) (σ : AH) (ρ : Rho) (env : LE) (Q : Flow → Shared → Prop) => block_s hS R P b i2 h2 s σ ρ env Q
    cases h
    revert e; refine bE3 fun f1 env1 σ1 hq e => ?_
    refine wpAny_execs_cons (hS Γ nx st i1 h1 A pe env s σ ρ f1 env1 σ1 _ _ R P I Fm hq fun f ρ' h' tk x I' F' r => ?_)
    cases r with
    | next => exact ih _ σ1 ρ' env1 Q I' F' e (k.tail x I' F')
    | brk => cases e; exact k _ _ _ _ x I' F' .brk
    | cont => cases e; exact k _ _ _ _ x I' F' .cont
    | ret r => cases e; exact k _ _ _ _ x I' F' (.ret r)
theorem ItSt.sx {h h' : Heap} {ρ' : Rho} {I : Addr} {i : Nat} {o : V} (x : SX Γ pe h ρ h' ρ') (Fm : Frm c Γ env pe ρ h) (t : ¬ Trk ρ I) (f : OffP Γ pe I) (s : ItSt h ρ I i o) : ItSt h' ρ' I i o := by
  have tr := x.tr Fm
  cases o with
  | obj n => obtain ⟨p, e1, o, e, r⟩ := s; exact ⟨p, x.idx e1, o, x.keep _ _ t f e, r⟩
  | tup vs =>
    obtain ⟨a, us, k, e1, e2, e3, o, e, r⟩ := s
    have := tr.cell a _ e2 e1 ⟨.inl rfl, .inl ⟨_, _, rfl⟩⟩
    exact ⟨a, us, k, this.1, this.2, e3.tr tr, o, x.keep _ _ t f e, r⟩
  | str y => obtain ⟨u, o, e, r⟩ := s; exact ⟨u, o, x.keep _ _ t f e, r⟩
  | range a b d => exact x.keep _ _ t f s
  | _ => exact s.elim
inductive ForSt (c : Ctx) (F : CFun) (Γ : CE) (pe : Env) (env' : LE) (σ' : AH) (fl : Fl) (ib : ISs) (o : V) (I : Addr) (st : V → LE → Option LE) (s : Shared) (ρ : Rho) : Nat → Shared → Prop
  | mk {f : Nat} {h' : Heap} {tk : Nat} {ρ₁ : Rho} {σ₁ : AH} {i : Nat} {env₁ : LE} (I₁ : Inv c σ₁ ρ₁ h') (F₁ : Frm c Γ env₁ pe ρ₁ h') (x₁ : SX Γ pe s.heap ρ h' ρ₁) (it : ItSt h' ρ₁ I i o) (tI : ¬ Trk ρ₁ I)
      (ev : forN st (fun env σ => exSs initOf F ib env σ) o f i env₁ σ₁ = some (fl, env', σ')) : ForSt c F Γ pe env' σ' fl ib o I st s ρ f { s with heap := h', toks := tk }
inductive WhileSt (c : Ctx) (F : CFun) (Γ : CE) (pe : Env) (env' : LE) (σ' : AH) (fl : Fl) (it : IT) (ib : ISs) (s : Shared) (ρ : Rho) : Nat → Shared → Prop
  | mk {f : Nat} {h' : Heap} {tk : Nat} {ρ₁ : Rho} {σ₁ : AH} {env₁ : LE} (I₁ : Inv c σ₁ ρ₁ h') (F₁ : Frm c Γ env₁ pe ρ₁ h') (x₁ : SX Γ pe s.heap ρ h' ρ₁)
      (ev : whileF (fun env σ => evT initOf F it env σ) (fun env σ => exSs initOf F ib env σ) f env₁ σ₁ = some (fl, env', σ')) : WhileSt c F Γ pe env' σ' fl it ib s ρ f { s with heap := h', toks := tk }
theorem for_loop (hS : SSt c F d n) (R : Room A d) (P : Fp c Γ pe) {target : Expr} {body : List Stmt} {ib : ISs} {o : V} {I : Addr} {st : V → LE → Option LE} (hb : cSs (cS glb aidx n Γ nx) body = some ib) {RR : Result → Shared → Prop}
    (hI : OffP Γ pe I) (gI : c.g.get? I = none) (nI : s.heap.get? I = none) (htgo : ∀ {A : Around} {E : Value → Shared → Prop} {s : Shared} {ρ : Rho} {i : Nat} {v : Value} {Q : Unit → Shared → Prop}, ItSt s.heap ρ I i o → Q () s → wpAny (model c.prog c.w) A (letOwnedTupleGo target (.ref I) v) Q E s)
    (hst : ∀ {E : Value → Shared → Prop} (v : V) (u : Value) (s : Shared) (σ : AH) (ρ : Rho) (env env' : LE) (Q : Unit → Shared → Prop), st v env = some env' → Inv c σ ρ s.heap → Frm c Γ env pe ρ s.heap → VRep s.heap ρ v u → KontU c Γ pe env' s ρ σ Q → wpAny (model c.prog c.w) A (assign target pe u) Q E s)
    (k : ∀ f ρ' h' tk, SX Γ pe s.heap ρ h' ρ' → Inv c σ' ρ' h' → Frm c Γ env' pe ρ' h' → FlR h' ρ' fl f → RR (.ok f) { s with heap := h', toks := tk })
    (f : Nat) {s₁ : Shared} (h : ForSt c F Γ pe env' σ' fl ib o I st s ρ f s₁) : codeAny (model c.prog c.w) A (.forLoop target (.ref I) body [] pe) RR s₁ := by
  refine codeAny_forLoop_any (ForSt c F Γ pe env' σ' fl ib o I st s ρ) ?_ f h
  rintro fu _ ⟨I₁, F₁, x₁, it, tI, ev⟩
  rename_i h' tk ρ₁ σ₁ i env₁
  cases fu with
  | zero => cases ev
  | succ fu =>
  revert ev; refine bE fun r hr ev => ?_
  have nt := it.obj.2
  have fr : ∀ {h2 : Heap}, But I h' h2 → Frm c Γ env₁ pe ρ₁ h2 := fun {h2} but => by
    refine Frm.tr F₁ (Tr.touch nt but) F₁.off (fun y k a b1 b2 b3 => ?_) (fun m hm => hm.at' fun o e => but _ o (Ne.symm hI.1) e) (fun y k a w b1 b2 b3 hc => ?_)
    · obtain ⟨a', w', q1, q2, _⟩ := F₁.cell y k b1 b2
      rw [b3] at q1; cases q1; exact q2
    · obtain ⟨oc, e1, e2⟩ := hc
      refine ⟨oc, but _ _ (fun z => ?_) e1, e2⟩
      have hb2 : Γ.kinds.lookup y = some .cell := b2.elim id fun z => absurd z (P.nofree y)
      exact hI.2 y k a b1 hb2 b3 z.symm
  refine next_s R.hand I₁ it tI hr (fun v hv u h2 tk2 ru st2 but => ?_) (fun hnone h2 tk2 but => ?_)
  · subst hv
    dsimp only at ev ⊢
    revert ev; refine bE fun env2 he2 ev => ?_
    revert ev; refine bE3 fun f1 env3 σ3 hq ev => ?_
    have I₂ := I₁.touch nt tI gI but
    have x₂ : SX Γ pe s.heap ρ h2 ρ₁ := ⟨x₁.new, fun b o t f e => but b o (fun z => by rw [z, nI] at e; cases e) (x₁.keep b o t f e)⟩
    refine htgo (s := { s with heap := h2, toks := tk2 }) st2 ?_
    refine hst v u _ σ₁ ρ₁ env₁ env2 _ he2 I₂ (fr but) ru fun h3 tk3 x3 I3 F3 ns3 => ?_
    have it3 : ItSt h3 ρ₁ I (i + 1) o := ItSt.sx x3 (fr but) tI hI st2
    obtain ⟨oI, eI⟩ := it3.obj.1
    refine block_s hS R P body ib hb _ σ₁ ρ₁ env2 _ I3 F3 hq fun f ρ4 h4 tk4 x4 I4 F4 r4 => ?_
    have x03 : SX Γ pe s.heap ρ h3 ρ₁ := x₂.go I₂ (fr but) x3
    have x04 : SX Γ pe s.heap ρ h4 ρ4 := x03.go I3 F3 x4
    have again : forN st (fun env σ => exSs initOf F ib env σ) o fu (i + 1) env3 σ3 = some (fl, env', σ') → ∃ m, m < fu + 1 ∧ ForSt c F Γ pe env' σ' fl ib o I st s ρ m { s with heap := h4, toks := tk4 } := fun ev =>
      ⟨_, Nat.lt_succ_self _, I4, F4, x04, ItSt.sx x4 F3 tI hI it3, x4.off eI tI, ev⟩
    cases r4 with
    | next => exact again ev
    | cont => exact again ev
    | brk => cases ev; exact k .next ρ4 h4 tk4 x04 I4 F4 .next
    | ret r => cases ev; exact k _ ρ4 h4 tk4 x04 I4 F4 (.ret r)
  · subst hnone
    dsimp only at ev ⊢
    cases ev
    have x₂ : SX Γ pe s.heap ρ h2 ρ₁ := ⟨x₁.new, fun b o t f e => but b o (fun z => by rw [z, nI] at e; cases e) (x₁.keep b o t f e)⟩
    exact wpAny_execs_nil (k .next ρ₁ h2 tk2 x₂ (I₁.touch nt tI gI but) (fr but) .next)
theorem while_loop (hS : SSt c F d n) (hT : ST c F d n) (R : Room A d) (P : Fp c Γ pe) {test : Expr} {body : List Stmt} {it : IT} {ib : ISs} (ht : cT glb aidx n Γ nx test = some it) (hb : cSs (cS glb aidx n Γ nx) body = some ib) {RR : Result → Shared → Prop}
    (k : ∀ f ρ' h' tk, SX Γ pe s.heap ρ h' ρ' → Inv c σ' ρ' h' → Frm c Γ env' pe ρ' h' → FlR h' ρ' fl f → RR (.ok f) { s with heap := h', toks := tk })
    (f : Nat) {s₁ : Shared} (h : WhileSt c F Γ pe env' σ' fl it ib s ρ f s₁) : codeAny (model c.prog c.w) A (.whileLoop test body [] pe) RR s₁ := by
  refine codeAny_whileLoop (WhileSt c F Γ pe env' σ' fl it ib s ρ) ?_ f h
  rintro f _ ⟨I₁, F₁, x₁, ev⟩
  rename_i h' tk ρ₁ σ₁ env₁
  cases f with
  | zero => cases ev
  | succ f =>
  revert ev; refine bE2 fun b1 σ2 hp ev => ?_
  refine hT Γ nx test it ht A pe env₁ _ σ₁ ρ₁ b1 σ2 _ _ R I₁ F₁ hp fun ρ₂ h₂ t₂ x₂ I₂ => ?_
  have x02 : SX Γ pe s.heap ρ h₂ ρ₂ := x₁.go I₁ F₁ (SX.of x₂)
  cases b1 with
  | false =>
    cases ev
    exact wpAny_execs_nil (k .next ρ₂ h₂ t₂ x02 I₂ (F₁.ext x₂) .next)
  | true =>
    dsimp only at ev
    revert ev; refine bE3 fun f1 env3 σ3 hq ev => ?_
    refine block_s hS R P body ib hb _ σ2 ρ₂ env₁ _ I₂ (F₁.ext x₂) hq fun f ρ4 h4 tk4 x4 I4 F4 r4 => ?_
    have x04 : SX Γ pe s.heap ρ h4 ρ4 := x02.go I₂ (F₁.ext x₂) x4
    cases r4 with
    | next => exact ⟨_, Nat.lt_succ_self _, I4, F4, x04, ev⟩
    | cont => exact ⟨_, Nat.lt_succ_self _, I4, F4, x04, ev⟩
    | brk => cases ev; exact k .next ρ4 h4 tk4 x04 I4 F4 .next
    | ret r => cases ev; exact k _ ρ4 h4 tk4 x04 I4 F4 (.ret r)
end
end Mine
namespace Mine
open PySem PySem.W PyProof.Rows PySem.Calls
section
variable {c : Ctx} {F : CFun} {d n : Nat} {Γ : CE} {nx : Nat} {env env' env₁ : LE} {pe : Env} {A : Around} {E : Value → Shared → Prop} {s : Shared} {σ σ' σ₁ : AH} {ρ : Rho} {fl : Fl}
theorem swapsComp {elt : Expr} {gs : List Comprehension} {sc : Scope} {p : Pos} {t : Str} {tp : Pos} {line : Nat} : ∃ b, swapsWith (.ListComp elt gs sc p) (some (.Name t tp)) line pe = pure b := ⟨_, rfl⟩
theorem asgName_s (hX : SE c F d n ∧ ST c F d n) (R : Room A d) (P : Fp c Γ pe) {id : Str} {tp pos : Pos} {v : Expr} {k : Nat} {e : IE} {Q : Flow → Shared → Prop} (hv : cVar Γ id = some k) (hg : (isComp v && Γ.kinds.lookup id != some .local) = false) (he : cE glb aidx (n + 1) Γ nx v = some e)
    (hE' : SE c F d (n + 1)) (I : Inv c σ ρ s.heap) (Fm : Frm c Γ env pe ρ s.heap) (ev : exS initOf F (.asg k e) env σ = some (fl, env', σ')) (q : KontS c Γ pe s ρ fl env' σ' Q) : wpAny (model c.prog c.w) A (exec (.Assign [.Name id tp] v pos) pe) Q E s := by
  revert ev; refine bE fun p hp ev => ?_
  first | obtain rfl := Option.some.inj ev | cases ev
  have plain : wpAny (model c.prog c.w) A (eval v pe) (fun u s₁ => wpAny (model c.prog c.w) A (assign (.Name id tp) pe u) (fun _ => Q .next) E s₁) E s := by
    refine hE' Γ nx v e he A pe env s σ ρ p.1 p.2 _ _ R I Fm hp fun u ρ₁ h₁ t₁ x₁ I₁ r₁ => ?_
    refine wpAny_assign_Name (store_s P hv I₁ (Fm.ext x₁) r₁ fun h' tk x I' F' ns => ?_)
    exact q .next ρ₁ h' tk ((SX.of x₁).go I₁ (Fm.ext x₁) x) I' F' .next
  by_cases hc : isComp v = false
  · exact asg1 hc rfl rfl plain
  · cases v with
    | ListComp elt gens sc lp =>
      have hg := bne_eq_false_iff_eq.mp hg
      obtain ⟨b, hb⟩ := swapsComp (pe := pe) (elt := elt) (gs := gens) (sc := sc) (p := lp) (t := id) (tp := tp) (line := pos.line)
      cases b with
      | false =>
        rw [arm_exec_Assign]
        refine wpAny_bind (wpAny_standAt ?_)
        rw [show swapsWithSole [.Name id tp] (.ListComp elt gens sc lp) pos.line pe = pure false from hb]
        refine wpAny_bind (wpAny_pure ?_)
        simp only [Bool.false_eq_true, if_false]
        refine wpAny_bind (wpAny_mono plain (fun u s₁ h₁ => ?_) fun _ _ x => x)
        exact wpAny_bind (wpAny_pure (wpAny_bind (wpAny_mono h₁ (fun _ s₂ h₂ => wpAny_pure h₂) fun _ _ x => x)))
      | true =>
        rw [exec_Assign_Name_used _ _ _ _ hb]
        refine wpAny_bind (wpAny_standAt (wpAny_bind ?_))
        revert he; refine bE3 fun x iter ifs hg1 he2 => ?_
        obtain ⟨gp, rfl⟩ := comp1_is hg1
        have he := he2
        revert he; refine iE fun hk he => ?_
        · revert he; refine bE fun Γ' h0 he => ?_
          revert he; refine bE fun i1 h1 he => ?_
          revert he; refine bE fun i2 h2 he => ?_
          revert he; refine bE fun i3 h3 he => ?_
          obtain rfl := Option.some.inj he
          show wpAny _ A (do let _ ← comprehension _ sc pe _ (newList []) false (eval _ pe) (some (assign (.Name id tp) pe))) _ _ s
          refine wpAny_bind (wpAny_mono (comp_core (use := some (assign (.Name id tp) pe)) (Q := fun _ s' => Q .next s') hX.1 hX.2 R hk h0 h1 h2 h3 I Fm hp fun D C ρ' h' tk I' X' r' ns' tC gC sC => ?_) (fun _ s' hq => wpAny_pure (wpAny_pure hq)) fun _ _ x => x)
          obtain ⟨m, hm⟩ := ns'
          have F₁ := Fm.ext X'
          have oC : OffP Γ pe C := Fm.own sC
          refine wpAny_assign_Name (store_s P hv I' F₁ r' fun h₂ tk₂ x₂ I₂ F₂ ns₂ => ?_)
          have hm₂ := ns₂ C m oC tC hm
          refine ⟨m, hm₂, fun h₃ hs₃ => ?_⟩
          have but := But.of hs₃
          have nt := NotT.ns hm₂
          have I₃ := I₂.touch nt tC gC but
          have x03 : SX Γ pe s.heap ρ h₃ ρ' := by
            have := (SX.of (Γ := Γ) (pe := pe) X').go I' F₁ x₂
            exact ⟨this.new, fun b o t f e => but b o (fun z => by rw [z, sC] at e; cases e) (this.keep b o t f e)⟩
          refine q .next ρ' h₃ tk₂ x03 I₃ ?_ .next
          refine Frm.tr F₂ (Tr.touch nt but) F₂.off (fun y ky a b1 b2 b3 => ?_) (fun m hm => hm.at' fun o e => but _ o (Ne.symm oC.1) e) (fun y ky a w b1 b2 b3 hc => ?_)
          · obtain ⟨a', w', q1, q2, _⟩ := F₂.cell y ky b1 b2
            rw [b3] at q1; cases q1; exact q2
          · obtain ⟨oc, e1, e2⟩ := hc
            have hb2 : Γ.kinds.lookup y = some .cell := b2.elim _root_.id fun z => absurd z (P.nofree y)
            exact ⟨oc, but _ _ (fun z => oC.2 y ky a b1 hb2 b3 z.symm) e1, e2⟩
    | SetComp => exact zE he
    | DictComp => exact zE he
    | _ => exact absurd rfl hc
theorem unp_s (hE : SE c F d n) (R : Room A d) (P : Fp c Γ pe) {ts : List Expr} {tk0 : Nat} {tp pos : Pos} {v : Expr} {ids : List Str} {ks : List Nat} {e : IE} {Q : Flow → Shared → Prop} (hc : isComp v = false) (hsw : swOk v = true) (h1 : names1 ts = some ids) (h2 : cSlots Γ ts = some ks) (he : cE glb aidx n Γ nx v = some e)
    (I : Inv c σ ρ s.heap) (Fm : Frm c Γ env pe ρ s.heap) (ev : exS initOf F (.unp ks e) env σ = some (fl, env', σ')) (q : KontS c Γ pe s ρ fl env' σ' Q) : wpAny (model c.prog c.w) A (exec (.Assign [.Tuple ts tk0 tp] v pos) pe) Q E s := by
  revert ev; refine bE fun p hp ev => ?_
  revert ev; refine bE fun vs hvs ev => ?_
  revert ev; refine bE fun env2 hb ev => ?_
  first | obtain rfl := Option.some.inj ev | cases ev
  rcases swapped_is (pe := pe) (ts := ts) (a := tk0) (b := tp) hsw with hw | ⟨line, hl, hw, _⟩
  · refine asg1 hc hw rfl ?_
    refine hE Γ nx v e he A pe env s σ ρ p.1 p.2 _ _ R I Fm hp fun u ρ₁ h₁ t₁ x₁ I₁ r₁ => ?_
    refine assign_names P R.hand h1 h2 I₁ (Fm.ext x₁) r₁ hvs hb fun h' tk x I' F' ns => ?_
    exact q .next ρ₁ h' tk ((SX.of x₁).go I₁ (Fm.ext x₁) x) I' F' .next
  · have hids : ts.filterMap (nmOf pe line) = ids := ((nmOf_full (Γ := Γ) (pe := pe) line ts).2 hl).1 ids h1
    rw [hids] at hw
    obtain ⟨_, b2, b3, _, _, _, b7, b8⟩ := names_s (A := A) P h1 h2
    have hlen := bindAll_len ks vs env env' hb
    refine Assign_Tuple_swapped (names := ids) ?_ ?_ hw
    · refine hE Γ nx v e he A pe env s σ ρ p.1 p.2 _ _ R I Fm hp fun u ρ₁ h₁ t₁ x₁ I₁ r₁ => ?_
      rw [show ids.length = vs.length by rw [b7, ← b8, hlen]]
      refine items_of R.hand I₁ r₁ hvs fun us h' rs x I' => ?_
      have F₁ := Fm.ext x₁
      rw [List.map_reverse]
      refine bind_s P b2.rev vs.reverse us.reverse env env' _ _ (by rw [bindAll_rev _ _ _ b3 hlen]; exact hb) rs.reverse I' (F₁.ext x) fun h'' tk y I'' F'' ns => ?_
      exact q .next ρ₁ h'' tk ((SX.of (x₁.trans I₁ x)).go I' (F₁.ext x) y) I'' F'' .next
    · show swapsWith v (some (.Tuple ts tk0 tp)) pos.line pe = pure false
      cases v <;> first | rfl | exact tE hc
theorem unpA_s (W : World c) (hE : SE c F d n) (R : Room A d) (P : Fp c Γ pe) {ts : List Expr} {tk0 : Nat} {tp pos : Pos} {v : Expr} {tks : List (Nat × Nat)} {e : IE} {Q : Flow → Shared → Prop} (hc : isComp v = false) (hsw : swOk v = true) (h2 : cAttrs aidx Γ ts = some tks) (he : cE glb aidx n Γ nx v = some e)
    (I : Inv c σ ρ s.heap) (Fm : Frm c Γ env pe ρ s.heap) (ev : exS initOf F (.unpA tks e) env σ = some (fl, env', σ')) (q : KontS c Γ pe s ρ fl env' σ' Q) : wpAny (model c.prog c.w) A (exec (.Assign [.Tuple ts tk0 tp] v pos) pe) Q E s := by
  revert ev; refine bE fun p hp ev => ?_
  revert ev; refine bE fun vs hvs ev => ?_
  revert ev; refine bE fun σ2 hb ev => ?_
  first | obtain rfl := Option.some.inj ev | cases ev
  have facts : ∀ {ts : List Expr} {tks : List (Nat × Nat)} {vs : List V} {σ σ2 : AH}, cAttrs aidx Γ ts = some tks → setAll tks vs env σ = some σ2 → (assignEach ts pe).length = vs.length ∧ (assignEach ts pe).findIdx? (·.1) = none := by
    intro ts
    induction ts with
    | nil => intro tks vs σ σ2 h1 h2; cases h1; cases vs with | nil => exact ⟨rfl, rfl⟩ | cons => cases h2
    | cons t ts ih =>
      intro tks vs σ σ2 h1 h2
      revert h1; refine bE fun q _ h1 => ?_
      obtain ⟨⟨o, a, ap⟩, rfl⟩ := q
      revert h1; refine bE fun q _ h1 => ?_
      obtain ⟨id, np, hnm⟩ := q
      obtain rfl : o = _ := hnm
      revert h1; refine eE fun _ h1 => ?_
      revert h1; refine eE fun _ h1 => ?_
      revert h1; refine bE fun k _ h1 => ?_
      revert h1; refine bE fun a' _ h1 => ?_
      revert h1; refine bE fun l hl h1 => ?_
      obtain rfl := Option.some.inj h1
      cases vs with
      | nil => exact zE h2
      | cons v vs =>
        revert h2; refine bE fun _ _ h2 => ?_
        revert h2; refine bE fun _ _ h2 => ?_
        obtain ⟨e1, e2⟩ := ih hl h2
        have e0 : assignEach (.Attribute (.Name id np) a ap :: ts) pe = (false, assign (.Attribute (.Name id np) a ap) pe) :: assignEach ts pe := rfl
        rw [e0]
        refine ⟨by simp [e1], ?_⟩
        rw [List.findIdx?_cons, e2]; rfl
  have hw : swappedStores [.Tuple ts tk0 tp] v pe = pure none := by
    rcases swapped_is (pe := pe) (ts := ts) (a := tk0) (b := tp) hsw with hw | ⟨line, hl, hw, hne⟩
    · exact hw
    · exact absurd (((nmOf_full (Γ := Γ) (pe := pe) line ts).2 hl).2 tks h2) hne
  refine asg1 hc hw rfl ?_
  refine hE Γ nx v e he A pe env s σ ρ p.1 p.2 _ _ R I Fm hp fun u ρ₁ h₁ t₁ x₁ I₁ r₁ => ?_
  obtain ⟨f1, f2⟩ := facts h2 hb
  show wpAny _ A (do standAt tp; unpack u (assignEach ts pe)) _ E _
  refine wpAny_bind (wpAny_standAt ?_)
  unfold unpack
  rw [f1, f2]
  refine wpAny_bind (wpAny_holding (items_of R.hand I₁ r₁ hvs fun us h' rs x I' => ?_))
  refine attrs_s W P h2 vs us _ _ _ _ hb rs I' ((Fm.ext x₁).ext x) fun h'' tk y I'' F'' ns => ?_
  exact q .next ρ₁ h'' tk ((SX.of (x₁.trans I₁ x)).go I' ((Fm.ext x₁).ext x) y) I'' F'' .next
end
end Mine
namespace Mine
open PySem PySem.W PyProof.Rows PySem.Calls
section
variable {c : Ctx} {F : CFun} {d n : Nat} {Γ : CE} {nx : Nat} {env env' env₁ : LE} {pe : Env} {A : Around} {E : Value → Shared → Prop} {s : Shared} {σ σ' σ₁ : AH} {ρ : Rho} {fl : Fl}
theorem Frm.sx {h h' : Heap} {ρ' : Rho} (Fm : Frm c Γ env pe ρ h) (x : Ext h ρ h' ρ') : Frm c Γ env pe ρ' h' := Fm.ext x
theorem asgA_s (W : World c) (hE : SE c F d n) (R : Room A d) (P : Fp c Γ pe) {o v : Expr} {a : Str} {ap pos : Pos} {ie io : IE} {ka : Nat} {Q : Flow → Shared → Prop} (hc : isComp v = false) (he : cE glb aidx n Γ nx v = some ie) (ho : cE glb aidx n Γ nx o = some io) (ha : aidx.lookup a = some ka)
    (I : Inv c σ ρ s.heap) (Fm : Frm c Γ env pe ρ s.heap) (ev : exS initOf F (.asgA io ka ie) env σ = some (fl, env', σ')) (q : KontS c Γ pe s ρ fl env' σ' Q) : wpAny (model c.prog c.w) A (exec (.Assign [.Attribute o a ap] v pos) pe) Q E s := by
  revert ev; refine bE fun p1 hp1 ev => ?_
  revert ev; refine bE fun p2 hp2 ev => ?_
  revert ev; refine bE fun σ2 hs ev => ?_
  first | obtain rfl := Option.some.inj ev | cases ev
  obtain ⟨l28, han⟩ := W.inj a ka ha
  refine asg1 hc rfl rfl (hE Γ nx v ie he A pe env s σ ρ p1.1 p1.2 _ _ R I Fm hp1 fun u₁ ρ₁ h₁ t₁ x₁ I₁ r₁ => ?_)
  show wpAny _ A (do
    let ov ← holding [u₁] (eval o pe)
    standAt ap.atName
    holding [u₁, ov] (setAttr ov a u₁)
    release [u₁, ov] []) _ E _
  refine wpAny_bind (wpAny_holding (hE Γ nx o io ho A pe env _ p1.2 ρ₁ p2.1 p2.2 _ _ R I₁ (Fm.ext x₁) hp2 fun u₂ ρ₂ h₂ t₂ x₂ I₂ r₂ => ?_))
  refine wpAny_bind (wpAny_standAt (wpAny_bind (wpAny_holding ?_)))
  rw [← han]
  have F₂ := (Fm.ext x₁).ext x₂
  refine setAttr_s W P l28 I₂ F₂ r₂ (r₁.ext x₂) hs fun h' tk x I' F' ns => wpAny_release ?_
  exact q .next ρ₂ h' tk ((SX.of (x₁.trans I₁ x₂)).go I₂ F₂ x) I' F' .next
theorem notSlice_set {o i : Expr} {sp : Pos} {u : Value} {Q : Unit → Shared → Prop} (h : wpAny (model c.prog c.w) A (eval o pe) (fun ov s₁ => wpAny (model c.prog c.w) A (eval i pe) (fun iv s₂ => wpAny (model c.prog c.w) A (setItem ov iv u) Q E s₂) E s₁) E s) :
    wpAny (model c.prog c.w) A (assign (.Subscript o i sp) pe u) Q E s := by
  have e : ∃ rel : Value → Value → List Value, assign (.Subscript o i sp) pe u = (do
      let ov ← holding [u] (eval o pe)
      let iv ← holding [u, ov] (eval i pe)
      standAt sp
      holding [u, ov, iv] (setItem ov iv u)
      release (rel ov iv) []) := by
    cases i with
    | Slice lo hi st p => cases st <;> exact ⟨_, rfl⟩
    | _ => exact ⟨_, rfl⟩
  obtain ⟨rel, e⟩ := e
  rw [e]
  refine wpAny_bind (wpAny_holding (wpAny_mono h (fun ov s₁ h₁ => wpAny_bind (wpAny_holding (wpAny_mono h₁ (fun iv s₂ h₂ => ?_) fun _ _ x => x))) fun _ _ x => x))
  exact wpAny_bind (wpAny_standAt (wpAny_bind (wpAny_holding (wpAny_mono h₂ (fun _ s₃ h₃ => wpAny_release h₃) fun _ _ x => x))))
theorem asgS_s (hE : SE c F d n) (R : Room A d) {o i v : Expr} {sp pos : Pos} {ie io ii : IE} {Q : Flow → Shared → Prop} (hc : isComp v = false) (he : cE glb aidx n Γ nx v = some ie) (ho : cE glb aidx n Γ nx o = some io) (hi : cE glb aidx n Γ nx i = some ii)
    (I : Inv c σ ρ s.heap) (Fm : Frm c Γ env pe ρ s.heap) (ev : exS initOf F (.asgS io ii ie) env σ = some (fl, env', σ')) (q : KontS c Γ pe s ρ fl env' σ' Q) : wpAny (model c.prog c.w) A (exec (.Assign [.Subscript o i sp] v pos) pe) Q E s := by
  revert ev; refine bE fun p1 hp1 ev => ?_
  revert ev; refine bE fun p2 hp2 ev => ?_
  revert ev; refine bE fun p3 hp3 ev => ?_
  revert ev; refine bE fun σ2 hs ev => ?_
  first | obtain rfl := Option.some.inj ev | cases ev
  refine asg1 hc rfl rfl (hE Γ nx v ie he A pe env s σ ρ p1.1 p1.2 _ _ R I Fm hp1 fun u₁ ρ₁ h₁ t₁ x₁ I₁ r₁ => notSlice_set ?_)
  have F₁ := Fm.ext x₁
  refine hE Γ nx o io ho A pe env _ p1.2 ρ₁ p2.1 p2.2 _ _ R I₁ F₁ hp2 fun u₂ ρ₂ h₂ t₂ x₂ I₂ r₂ => ?_
  have F₂ := F₁.ext x₂
  refine hE Γ nx i ii hi A pe env _ p2.2 ρ₂ p3.1 p3.2 _ _ R I₂ F₂ hp3 fun u₃ ρ₃ h₃ t₃ x₃ I₃ r₃ => ?_
  have F₃ := F₂.ext x₃
  refine setSub_s I₃ F₃ (r₂.ext x₃) r₃ ((r₁.ext x₂).ext x₃) hs fun h' tk x I' F' ns => ?_
  exact q .next ρ₃ h' tk ((SX.of (x₁.trans I₁ (x₂.trans I₂ x₃))).go I₃ F₃ x) I' F' .next
theorem aug_s (hE : SE c F d n) (R : Room A d) (P : Fp c Γ pe) {id : Str} {np pos : Pos} {op : Operator} {v : Expr} {k : Nat} {ie : IE} {Q : Flow → Shared → Prop} (h2 : (id == ("__classdict__" : Str)) = false) (hv : cVar Γ id = some k) (he : cE glb aidx n Γ nx v = some ie)
    (I : Inv c σ ρ s.heap) (Fm : Frm c Γ env pe ρ s.heap) (ev : exS initOf F (.aug k op ie) env σ = some (fl, env', σ')) (q : KontS c Γ pe s ρ fl env' σ' Q) : wpAny (model c.prog c.w) A (exec (.AugAssign (.Name id np) op v pos) pe) Q E s := by
  revert ev; refine bE fun x0 hx0 ev => ?_
  revert ev; refine bE fun p1 hp1 ev => ?_
  revert ev; refine bE fun p2 hp2 ev => ?_
  first | obtain rfl := Option.some.inj ev | cases ev
  rw [exec_AugAssign_Name]
  refine wpAny_bind (wpAny_standAt (wpAny_bind (load_q Fm hv hx0 h2 fun u₀ r₀ => ?_)))
  refine wpAny_bind (wpAny_holding (hE Γ nx v ie he A pe env s σ ρ p1.1 p1.2 _ _ R I Fm hp1 fun u₁ ρ₁ h₁ t₁ x₁ I₁ r₁ => ?_))
  refine wpAny_bind (wpAny_standAt (wpAny_bind (wpAny_operate' (augV_s I₁ (r₀.ext x₁) r₁ hp2 fun u₂ ρ₂ h₂ t₂ x₂ I₂ r₂ => ?_))))
  have F₂ := (Fm.ext x₁).ext x₂
  refine wpAny_bind (wpAny_standAt (wpAny_bind (wpAny_bindName (store_s P hv I₂ F₂ r₂ fun h' tk x I' F' ns => wpAny_pure ?_))))
  exact q .next ρ₂ h' tk ((SX.of (x₁.trans I₁ x₂)).go I₂ F₂ x) I' F' .next
theorem augA_s (W : World c) (hE : SE c F d n) (R : Room A d) (P : Fp c Γ pe) {o v : Expr} {a : Str} {ap pos : Pos} {op : Operator} {ie io : IE} {ka : Nat} {Q : Flow → Shared → Prop} (ho : cE glb aidx n Γ nx o = some io) (ha : aidx.lookup a = some ka) (he : cE glb aidx n Γ nx v = some ie)
    (I : Inv c σ ρ s.heap) (Fm : Frm c Γ env pe ρ s.heap) (ev : exS initOf F (.augA io ka op ie) env σ = some (fl, env', σ')) (q : KontS c Γ pe s ρ fl env' σ' Q) : wpAny (model c.prog c.w) A (exec (.AugAssign (.Attribute o a ap) op v pos) pe) Q E s := by
  revert ev; refine bE fun p1 hp1 ev => ?_
  revert ev; refine bE fun x0 hx0 ev => ?_
  revert ev; refine bE fun p2 hp2 ev => ?_
  revert ev; refine bE fun p3 hp3 ev => ?_
  revert ev; refine bE fun σ2 hs ev => ?_
  first | obtain rfl := Option.some.inj ev | cases ev
  obtain ⟨l28, han⟩ := W.inj a ka ha
  subst han
  show wpAny _ A (do
    standAt pos
    let ov ← eval o pe
    let new ← holding [ov] do
      standAt ap.atName
      let old ← getAttr ov (anm ka) true
      let v ← holding [old] (eval v pe)
      standAt pos
      operate [old, v] (inplaceOp op old v)
    standAt ap.atName
    holding [new, ov] (setAttr ov (anm ka) new)
    release [new, ov] []
    pure .next) Q E s
  refine wpAny_bind (wpAny_standAt (wpAny_bind (hE Γ nx o io ho A pe env s σ ρ p1.1 p1.2 _ _ R I Fm hp1 fun u₁ ρ₁ h₁ t₁ x₁ I₁ r₁ => ?_)))
  have F₁ := Fm.ext x₁
  refine wpAny_bind (wpAny_holding (wpAny_bind (wpAny_standAt (wpAny_bind (attr_s W l28 I₁ r₁ hx0 fun u₂ ρ₂ h₂ t₂ x₂ I₂ r₂ => ?_)))))
  have F₂ := F₁.ext x₂
  refine wpAny_bind (wpAny_holding (hE Γ nx v ie he A pe env _ p1.2 ρ₂ p2.1 p2.2 _ _ R I₂ F₂ hp2 fun u₃ ρ₃ h₃ t₃ x₃ I₃ r₃ => ?_))
  have F₃ := F₂.ext x₃
  refine wpAny_bind (wpAny_standAt (wpAny_operate' (augV_s I₃ (r₂.ext x₃) r₃ hp3 fun u₄ ρ₄ h₄ t₄ x₄ I₄ r₄ => ?_)))
  have F₄ := F₃.ext x₄
  refine wpAny_bind (wpAny_standAt (wpAny_bind (wpAny_holding (setAttr_s W P l28 I₄ F₄ (((r₁.ext x₂).ext x₃).ext x₄) r₄ hs fun h' tk x I' F' ns => ?_))))
  refine wpAny_bind (wpAny_release (wpAny_pure ?_))
  exact q .next ρ₄ h' tk ((SX.of (x₁.trans I₁ (x₂.trans I₂ (x₃.trans I₃ x₄)))).go I₄ F₄ x) I' F' .next
theorem augSub {o i v : Expr} {sp pos : Pos} {op : Operator} {Q : Flow → Shared → Prop} (hi : ∀ lo hi st p, i ≠ .Slice lo hi st p)
    (h : wpAny (model c.prog c.w) A (eval o pe) (fun ov s₁ => wpAny (model c.prog c.w) A (eval i pe) (fun iv s₂ => wpAny (model c.prog c.w) A (getItem ov iv) (fun old s₃ =>
      wpAny (model c.prog c.w) A (eval v pe) (fun w s₄ => wpAny (model c.prog c.w) A (inplaceOp op old w) (fun new s₅ =>
        wpAny (model c.prog c.w) A (setItem ov iv new) (fun _ => Q .next) E s₅) E s₄) E s₃) E s₂) E s₁) E s) :
    wpAny (model c.prog c.w) A (exec (.AugAssign (.Subscript o i sp) op v pos) pe) Q E s :=
  wpAny_AugAssign_Subscript_any h fun ov iv new => by
    unfold augStore
    split
    · rename_i a b c; exact absurd rfl (hi _ _ _ _)
    · rfl
theorem augS_s (hE : SE c F d n) (R : Room A d) {o i v : Expr} {sp pos : Pos} {op : Operator} {ie io ii : IE} {Q : Flow → Shared → Prop} (hsl : ∀ lo hi st p, i ≠ .Slice lo hi st p) (ho : cE glb aidx n Γ nx o = some io) (hi : cE glb aidx n Γ nx i = some ii) (he : cE glb aidx n Γ nx v = some ie)
    (I : Inv c σ ρ s.heap) (Fm : Frm c Γ env pe ρ s.heap) (ev : exS initOf F (.augS io ii op ie) env σ = some (fl, env', σ')) (q : KontS c Γ pe s ρ fl env' σ' Q) : wpAny (model c.prog c.w) A (exec (.AugAssign (.Subscript o i sp) op v pos) pe) Q E s := by
  revert ev; refine bE fun p1 hp1 ev => ?_
  revert ev; refine bE fun p2 hp2 ev => ?_
  revert ev; refine bE fun x0 hx0 ev => ?_
  revert ev; refine bE fun p3 hp3 ev => ?_
  revert ev; refine bE fun p4 hp4 ev => ?_
  revert ev; refine bE fun σ2 hs ev => ?_
  first | obtain rfl := Option.some.inj ev | cases ev
  refine augSub hsl (hE Γ nx o io ho A pe env s σ ρ p1.1 p1.2 _ _ R I Fm hp1 fun u₁ ρ₁ h₁ t₁ x₁ I₁ r₁ => ?_)
  have F₁ := Fm.ext x₁
  refine hE Γ nx i ii hi A pe env _ p1.2 ρ₁ p2.1 p2.2 _ _ R I₁ F₁ hp2 fun u₂ ρ₂ h₂ t₂ x₂ I₂ r₂ => ?_
  have F₂ := F₁.ext x₂
  refine (subV_s I₂ (r₁.ext x₂) r₂ hx0 fun u₃ ρ₃ h₃ t₃ x₃ I₃ r₃ => ?_).1
  have F₃ := F₂.ext x₃
  refine hE Γ nx v ie he A pe env _ p2.2 ρ₃ p3.1 p3.2 _ _ R I₃ F₃ hp3 fun u₄ ρ₄ h₄ t₄ x₄ I₄ r₄ => ?_
  have F₄ := F₃.ext x₄
  refine augV_s I₄ (r₃.ext x₄) r₄ hp4 fun u₅ ρ₅ h₅ t₅ x₅ I₅ r₅ => ?_
  have F₅ := F₄.ext x₅
  refine setSub_s I₅ F₅ ((((r₁.ext x₂).ext x₃).ext x₄).ext x₅) (((r₂.ext x₃).ext x₄).ext x₅) r₅ hs fun h' tk x I' F' ns => ?_
  exact q .next ρ₅ h' tk ((SX.of (x₁.trans I₁ (x₂.trans I₂ (x₃.trans I₃ (x₄.trans I₄ x₅))))).go I₅ F₅ x) I' F' .next
theorem augD_s (W : World c) (hE : SE c F d n) (R : Room A d) {o v : Expr} {kx : Nat} {y : Str} {cp sp pos : Pos} {op : Operator} {ie io : IE} {ka : Nat} {Q : Flow → Shared → Prop} (ho : cE glb aidx n Γ nx o = some io) (ha : aidx.lookup y = some ka) (he : cE glb aidx n Γ nx v = some ie)
    (I : Inv c σ ρ s.heap) (Fm : Frm c Γ env pe ρ s.heap) (ev : exS initOf F (.augD io ka op ie) env σ = some (fl, env', σ')) (q : KontS c Γ pe s ρ fl env' σ' Q) : wpAny (model c.prog c.w) A (exec (.AugAssign (.Subscript o (.Constant (.str y) kx cp) sp) op v pos) pe) Q E s := by
  revert ev; refine bE fun p1 hp1 ev => ?_
  revert ev; refine bE fun x0 hx0 ev => ?_
  revert ev; refine bE fun p3 hp3 ev => ?_
  revert ev; refine bE fun p4 hp4 ev => ?_
  revert ev; refine bE fun σ2 hs ev => ?_
  first | obtain rfl := Option.some.inj ev | cases ev
  obtain ⟨l28, han⟩ := W.inj y ka ha
  subst han
  refine augSub (by intros; simp) (hE Γ nx o io ho A pe env s σ ρ p1.1 p1.2 _ _ R I Fm hp1 fun u₁ ρ₁ h₁ t₁ x₁ I₁ r₁ => wpAny_Constant_str ?_)
  have F₁ := Fm.ext x₁
  obtain ⟨pd, kvs, hpd, hd, uu, hval, hr⟩ := dsub_at I₁ r₁ hx0
  have hd' := hd
  subst hpd
  refine wpAny_getItem_of (strKind_is _ _ _ _) hd.mapOf hval ?_
  refine hE Γ nx v ie he A pe env _ p1.2 ρ₁ p3.1 p3.2 _ _ R I₁ F₁ hp3 fun u₄ ρ₄ h₄ t₄ x₄ I₄ r₄ => ?_
  have F₄ := F₁.ext x₄
  refine augV_s I₄ (hr.ext x₄) r₄ hp4 fun u₅ ρ₅ h₅ t₅ x₅ I₅ r₅ => ?_
  have F₅ := F₄.ext x₅
  refine setKey_s l28 I₅ F₅ ((r₁.ext x₄).ext x₅) r₅ hs fun h' tk x I' F' ns => ?_
  exact q .next ρ₅ h' tk ((SX.of (x₁.trans I₁ (x₄.trans I₄ x₅))).go I₅ F₅ x) I' F' .next
end
end Mine
namespace Mine
open PySem PySem.W PyProof.Rows PySem.Calls
section
variable {c : Ctx} {F : CFun} {d n : Nat} {Γ : CE} {nx : Nat} {env env' env₁ : LE} {pe : Env} {A : Around} {E : Value → Shared → Prop} {s : Shared} {σ σ' σ₁ : AH} {ρ : Rho} {fl : Fl}
theorem for_s (hE : SE c F d n) (hS : SSt c F d n) (R : Room A d) (P : Fp c Γ pe) {target iter : Expr} {body : List Stmt} {pos : Pos} {ie : IE} {ib : ISs} {st : V → LE → Option LE} {Q : Flow → Shared → Prop} (he : cE glb aidx n Γ nx iter = some ie) (hb : cSs (cS glb aidx n Γ nx) body = some ib)
    (htgo : ∀ {o : V} {I : Addr} {A : Around} {E : Value → Shared → Prop} {s : Shared} {ρ : Rho} {i : Nat} {v : Value} {Q : Unit → Shared → Prop}, ItSt s.heap ρ I i o → Q () s → wpAny (model c.prog c.w) A (letOwnedTupleGo target (.ref I) v) Q E s)
    (hst : ∀ {E : Value → Shared → Prop} (v : V) (u : Value) (s : Shared) (σ : AH) (ρ : Rho) (env env' : LE) (Q : Unit → Shared → Prop), st v env = some env' → Inv c σ ρ s.heap → Frm c Γ env pe ρ s.heap → VRep s.heap ρ v u → KontU c Γ pe env' s ρ σ Q → wpAny (model c.prog c.w) A (assign target pe u) Q E s)
    (I : Inv c σ ρ s.heap) (Fm : Frm c Γ env pe ρ s.heap) (ev : ((evE initOf F ie env σ).bind fun p => forV st (fun env σ => exSs initOf F ib env σ) p.1 env p.2) = some (fl, env', σ')) (q : KontS c Γ pe s ρ fl env' σ' Q) : wpAny (model c.prog c.w) A (exec (.For target iter body [] pos) pe) Q E s := by
  revert ev; refine bE fun p hp ev => ?_
  revert ev; refine bE fun cnt hcnt ev => ?_
  refine wpAny_For (hE Γ nx iter ie he A pe env s σ ρ p.1 p.2 _ _ R I Fm hp fun u₁ ρ₁ h₁ t₁ x₁ I₁ r₁ => ?_) (fun x => noSet he x)
  have F₁ := Fm.ext x₁
  refine iter_s I₁ r₁ hcnt fun xo it => ?_
  have nI : h₁.get? h₁.objs.size = none := get?_size h₁
  have gI : c.g.get? h₁.objs.size = none := by
    cases z : c.g.get? h₁.objs.size with
    | none => rfl
    | some o => have := I₁.keep _ o z; rw [nI] at this; cases this
  have xp : Ext h₁ ρ₁ (h₁.push xo) ρ₁ := Ext.push _
  refine for_loop (s := { s with heap := h₁, toks := t₁ }) (ρ := ρ₁) (o := p.1) (I := h₁.objs.size) (σ' := σ') (env' := env') (fl := fl) hS R P hb (F₁.own nI) gI nI htgo hst (fun f ρ' h' tk x I' F' r => ?_) (cnt + 1)
    ⟨I₁.push _, F₁.ext xp, SX.of xp, it, I₁.fresh nI, ev⟩
  exact q f ρ' h' tk ((SX.of x₁).go I₁ F₁ x) I' F' r
theorem go_name {id : Str} {tp : Pos} {it v : Value} {Q : Unit → Shared → Prop} (h : Q () s) : wpAny (model c.prog c.w) A (letOwnedTupleGo (.Name id tp) it v) Q E s := wpAny_pure h
theorem go_tuple {ts : List Expr} {k : Nat} {tp : Pos} {o : V} {I : Addr} {i : Nat} {v : Value} {Q : Unit → Shared → Prop} (it : ItSt s.heap ρ I i o) (h : Q () s) : wpAny (model c.prog c.w) A (letOwnedTupleGo (.Tuple ts k tp) (.ref I) v) Q E s := by
  unfold letOwnedTupleGo
  cases v with
  | ref a =>
    have hx : ∃ x, s.heap.get? I = some x ∧ (x.cls = .type "list_iterator" ∨ x.cls = .type "tuple_iterator" ∨ x.cls = .type "str_ascii_iterator" ∨ x.cls = .type "range_iterator") := by
      cases o with
      | obj n => obtain ⟨p, _, x, e, hc, _⟩ := it; exact ⟨x, e, .inl hc⟩
      | tup vs => obtain ⟨_, _, _, _, _, _, x, e, hc, _⟩ := it; exact ⟨x, e, .inr (.inl hc)⟩
      | str x => obtain ⟨t, x, e, hc, _⟩ := it; exact ⟨x, e, .inr (.inr (.inl hc))⟩
      | range a b d => exact ⟨_, it, .inr (.inr (.inr rfl))⟩
      | _ => exact it.elim
    obtain ⟨x, e, hc⟩ := hx
    dsimp only
    refine wpAny_bind (wpAny_load e ?_)
    have no : ∀ T : String, x.cls = .type T → ["enumerate", "zip", "dict_itemiterator", "dict_reverseitemiterator", "odict_iterator", "itertools.zip_longest", "itertools.pairwise"].contains T = false →
        wpAny (model c.prog c.w) A (match x.cls, x.data with
          | .type n, .fields vs =>
            if ["enumerate", "zip", "dict_itemiterator", "dict_reverseitemiterator", "odict_iterator", "itertools.zip_longest", "itertools.pairwise"].contains n && vs[0]? == some (rawInt a) then do
              rule "for.unpacks-the-owned-tuple"
              updateField I 0 .none
            else pure ()
          | _, _ => pure ()) Q E s := fun T hT hn => by
      rw [hT]
      generalize x.data = dt
      cases dt with
      | fields vs => dsimp only; rw [hn]; exact wpAny_pure h
      | _ => exact wpAny_pure h
    rcases hc with hc | hc | hc | hc
    · exact no _ hc (by decide)
    · exact no _ hc (by decide)
    · exact no _ hc (by decide)
    · exact no _ hc (by decide)
  | _ => exact wpAny_pure h
theorem not_f {b : Bool} (h : (!b) = false) : b = true := by cases b <;> first | rfl | cases h
theorem stmt_step (W : World c) (hX : ∀ m, SE c F d m ∧ ST c F d m) (hS : SSt c F d n) : SSt c F d (n + 1) := by
  obtain ⟨hE, hT⟩ := hX n
  intro Γ nx stm is hc A pe env s σ ρ fl env' σ' Q E R P I Fm ev q
  cases stm with
  | Assign ts v pos =>
    revert hc; refine bE fun t ht hc => ?_
    obtain rfl := one_is ht
    cases t with
    | Name id tp =>
      revert hc; refine bE fun k hk hc => ?_
      revert hc; refine eE fun hg hc => ?_
      revert hc; refine bE fun e he hc => ?_
      obtain rfl := Option.some.inj hc
      cases n with
      | zero => exact zE he
      | succ m => exact asgName_s (hX m) R P hk hg he hE I Fm ev q
    | Attribute o a ap =>
      revert hc; refine eE fun hg hc => ?_
      revert hc; refine bE fun e he hc => ?_
      revert hc; refine bE fun io ho hc => ?_
      revert hc; refine bE fun ka ha hc => ?_
      obtain rfl := Option.some.inj hc
      exact asgA_s W hE R P hg he ho ha I Fm ev q
    | Subscript o i sp =>
      revert hc; refine eE fun hg hc => ?_
      revert hc; refine oN fun hns hc => ?_
      revert hc; refine bE fun e he hc => ?_
      revert hc; refine bE fun io ho hc => ?_
      revert hc; refine bE fun ii hi hc => ?_
      obtain rfl := Option.some.inj hc
      exact asgS_s hE R hg he ho hi I Fm ev q
    | Tuple ts tk0 tp =>
      revert hc; refine eE fun hg hc => ?_
      obtain ⟨hg1, hg2⟩ := or_f hg
      have hg2 := not_f hg2
      revert hc; refine oE (fun ids h1 hc => ?_) (fun _ hc => ?_)
      · revert hc; refine bE fun ks h2 hc => ?_
        revert hc; refine bE fun e he hc => ?_
        obtain rfl := Option.some.inj hc
        exact unp_s hE R P hg1 hg2 h1 h2 he I Fm ev q
      · revert hc; refine bE fun ks h2 hc => ?_
        revert hc; refine bE fun e he hc => ?_
        obtain rfl := Option.some.inj hc
        exact unpA_s W hE R P hg1 hg2 h2 he I Fm ev q
    | _ => exact zE hc
  | AugAssign t op v pos =>
    cases t with
    | Name id tp =>
      revert hc; refine eE fun hg hc => ?_
      revert hc; refine bE fun k hk hc => ?_
      revert hc; refine bE fun e he hc => ?_
      obtain rfl := Option.some.inj hc
      exact aug_s hE R P hg hk he I Fm ev q
    | Attribute o a ap =>
      revert hc; refine bE fun io ho hc => ?_
      revert hc; refine bE fun ka ha hc => ?_
      revert hc; refine bE fun e he hc => ?_
      obtain rfl := Option.some.inj hc
      exact augA_s W hE R P ho ha he I Fm ev q
    | Subscript o i sp =>
      revert hc; refine oN fun hns hc => ?_
      revert hc; refine oE (fun x hx hc => ?_) (fun _ hc => ?_)
      · revert hc; refine bE fun io ho hc => ?_
        revert hc; refine bE fun ka ha hc => ?_
        revert hc; refine bE fun e he hc => ?_
        obtain rfl := Option.some.inj hc
        obtain ⟨_, _, rfl⟩ := strConst_is hx
        exact augD_s W hE R ho ha he I Fm ev q
      · revert hc; refine bE fun io ho hc => ?_
        revert hc; refine bE fun ii hi hc => ?_
        revert hc; refine bE fun e he hc => ?_
        obtain rfl := Option.some.inj hc
        exact augS_s hE R (fun lo hi st p z => by subst z; cases hns) ho hi he I Fm ev q
    | _ => exact zE hc
  | If t a b pos =>
    revert hc; refine bE fun it ht hc => ?_
    revert hc; refine bE fun ia ha hc => ?_
    revert hc; refine bE fun ib hb hc => ?_
    first | obtain rfl := Option.some.inj hc | cases hc
    revert ev; refine bE2 fun b1 σ1 hp ev => ?_
    refine wpAny_If (hT Γ nx t it ht A pe env s σ ρ b1 σ1 _ _ R I Fm hp fun ρ₁ h₁ t₁ x₁ I₁ => ?_)
    cases b1 with
    | true => exact block_s hS R P a ia ha _ σ1 ρ₁ env Q I₁ (Fm.ext x₁) ev (KontS.tail (t₁ := t₁) q (SX.of x₁) I₁ (Fm.ext x₁))
    | false => exact block_s hS R P b ib hb _ σ1 ρ₁ env Q I₁ (Fm.ext x₁) ev (KontS.tail (t₁ := t₁) q (SX.of x₁) I₁ (Fm.ext x₁))
  | For t iter body orelse pos =>
    revert hc; refine iE fun ho hc => ?_
    obtain rfl := List.isEmpty_iff.mp ho
    cases t with
    | Name id tp =>
      revert hc; refine bE fun k hk hc => ?_
      revert hc; refine bE fun e he hc => ?_
      revert hc; refine bE fun b hb hc => ?_
      first | obtain rfl := Option.some.inj hc | cases hc
      refine for_s hE hS R P he hb (fun _ h => go_name h) (fun v u s σ ρ env env' Q hs I Fm r q => ?_) I Fm ev q
      cases hs
      exact wpAny_assign_Name (store_s P hk I Fm r q)
    | Tuple ts tk0 tp =>
      revert hc; refine bE fun ids h1 hc => ?_
      revert hc; refine bE fun ks h2 hc => ?_
      revert hc; refine bE fun e he hc => ?_
      revert hc; refine bE fun b hb hc => ?_
      first | obtain rfl := Option.some.inj hc | cases hc
      refine for_s hE hS R P he hb (fun it h => go_tuple it h) (fun v u s σ ρ env env' Q hs I Fm r q => ?_) I Fm ev q
      cases v with
      | tup vs => exact assign_names P R.hand h1 h2 I Fm r rfl hs q
      | _ => cases hs
    | _ => exact zE hc
  | While t body orelse pos =>
    revert hc; refine iE fun ho hc => ?_
    obtain rfl := List.isEmpty_iff.mp ho
    revert hc; refine bE fun it ht hc => ?_
    revert hc; refine bE fun b hb hc => ?_
    first | obtain rfl := Option.some.inj hc | cases hc
    exact wpAny_While (while_loop (s := s) (ρ := ρ) (σ' := σ') (env' := env') (fl := fl) hS hT R P ht hb (fun f ρ' h' tk x I' F' r => q f ρ' h' tk x I' F' r) 100 ⟨I, Fm, SX.refl, ev⟩)
  | Return v pos =>
    cases v with
    | none =>
      obtain rfl := Option.some.inj hc
      cases (show some _ = some _ from ev)
      exact wpAny_Return_none (q _ ρ s.heap s.toks SX.refl I Fm (.ret .none))
    | some v =>
      revert hc; refine bE fun e he hc => ?_
      first | obtain rfl := Option.some.inj hc | cases hc
      revert ev; refine bE fun p hp ev => ?_
      first | obtain rfl := Option.some.inj ev | cases ev
      exact wpAny_Return_some (hE Γ nx v e he A pe env s σ ρ p.1 p.2 _ _ R I Fm hp fun u₁ ρ₁ h₁ t₁ x₁ I₁ r₁ => q _ ρ₁ h₁ t₁ (SX.of x₁) I₁ (Fm.ext x₁) (.ret r₁))
  | Expr v pos =>
    · revert hc; refine eE fun hg hc => ?_
      revert hc; refine bE fun e he hc => ?_
      first | obtain rfl := Option.some.inj hc | cases hc
      revert ev; refine bE fun p hp ev => ?_
      first | obtain rfl := Option.some.inj ev | cases ev
      refine wpAny_Expr_any (hE Γ nx v e he A pe env s σ ρ p.1 p.2 _ _ R I Fm hp fun u₁ ρ₁ h₁ t₁ x₁ I₁ r₁ => q _ ρ₁ h₁ t₁ (SX.of x₁) I₁ (Fm.ext x₁) .next) ?_ ?_
      · unfold interactive; rw [Fm.kind]; rfl
      · cases v <;> first | rfl | exact tE hg
  | Continue pos =>
    obtain rfl := Option.some.inj hc
    cases (show some _ = some _ from ev)
    exact wpAny_Continue (q _ ρ s.heap s.toks SX.refl I Fm .cont)
  | Try body hs orelse final pos =>
    revert hc; refine iE fun ho hc => ?_
    obtain ⟨ho1, ho2, ho3⟩ := ho
    obtain rfl := List.isEmpty_iff.mp ho2
    obtain rfl := List.isEmpty_iff.mp ho3
    cases hs with
    | nil => cases ho1
    | cons h0 hs =>
    revert hc; refine bE fun b hb hc => ?_
    first | obtain rfl := Option.some.inj hc | cases hc
    refine wpAny_Try_except (block_s hS R P body b hb s σ ρ env _ I Fm ev fun f ρ' h' tk x I' F' r => ?_)
    cases r with
    | next => exact wpAny_execs_nil (q _ ρ' h' tk x I' F' .next)
    | brk => exact q _ ρ' h' tk x I' F' .brk
    | cont => exact q _ ρ' h' tk x I' F' .cont
    | ret r => exact q _ ρ' h' tk x I' F' (.ret r)
  | Raise e cz pos =>
    obtain rfl := Option.some.inj hc
    exact zE ev
  | _ => exact zE hc
theorem stmt_ok (W : World c) (hF : Sound c F d) (hF2 : HasF F) : ∀ n, SSt c F d n
  | 0 => fun _ _ _ _ h => zE h
  | n + 1 => stmt_step W (expr_ok W hF hF2) (stmt_ok W hF hF2 n)
end
end Mine
namespace Mine
open PySem PySem.W PyProof.Rows PySem.Calls
theorem slots_ge : ∀ {names : List (Str × NameKind)} {i : Nat} {y : Str} {k : Nat}, (y, k) ∈ slotsOf i names → i ≤ k
  | [], _, _, _, h => nomatch h
  | (x, kd) :: r, i, y, k, h => by
    have here : (y, k) ∈ (x, i) :: slotsOf (i + 1) r → i ≤ k := fun h => by
      rcases List.mem_cons.mp h with z | z
      · cases z; exact Nat.le_refl _
      · exact Nat.le_of_succ_le (slots_ge z)
    cases kd with
    | «local» => exact here h
    | cell => exact here h
    | _ => exact slots_ge (names := r) h
theorem slots_uniq : ∀ {names : List (Str × NameKind)} {i : Nat} {y z : Str} {k : Nat}, (y, k) ∈ slotsOf i names → (z, k) ∈ slotsOf i names → y = z
  | [], _, _, _, _, h, _ => nomatch h
  | (x, kd) :: r, i, y, z, k, h1, h2 => by
    have here : (y, k) ∈ (x, i) :: slotsOf (i + 1) r → (z, k) ∈ (x, i) :: slotsOf (i + 1) r → y = z := fun h1 h2 => by
      rcases List.mem_cons.mp h1 with a | a <;> rcases List.mem_cons.mp h2 with b | b
      · cases a; cases b; rfl
      · cases a; exact absurd (slots_ge b) (by lia)
      · cases b; exact absurd (slots_ge a) (by lia)
      · exact slots_uniq a b
    cases kd with
    | «local» => exact here h1 h2
    | cell => exact here h1 h2
    | _ => exact slots_uniq (names := r) h1 h2
theorem cellsFrom_has : ∀ {names : List (Str × NameKind)} {n : Nat} {acc : List (Str × Addr)}, (∀ p ∈ acc, p ∈ cellsFrom n names acc) ∧ ∀ y, (y, NameKind.cell) ∈ names → ∃ a, (y, a) ∈ cellsFrom n names acc
  | [], n, acc => ⟨fun p hp => hp, fun y h => nomatch h⟩
  | (x, kd) :: r, n, acc => by
    unfold cellsFrom
    by_cases hk : (kd == NameKind.cell) = true
    · rw [if_pos hk]
      obtain ⟨h1, h2⟩ := cellsFrom_has (names := r) (n := n + 1) (acc := (x, n) :: acc)
      refine ⟨fun p hp => h1 p (List.mem_cons_of_mem _ hp), fun y hy => ?_⟩
      rcases List.mem_cons.mp hy with z | z
      · cases z; exact ⟨n, h1 _ (List.mem_cons_self ..)⟩
      · exact h2 y z
    · rw [if_neg hk]
      obtain ⟨h1, h2⟩ := cellsFrom_has (names := r) (n := n) (acc := acc)
      refine ⟨h1, fun y hy => ?_⟩
      rcases List.mem_cons.mp hy with z | z
      · cases z; simp at hk
      · exact h2 y z
theorem bindL_at {kindOf : Str → Option NameKind} : ∀ (as : List Str) (us : List Value) (m : Str → Option Value), as.Nodup → (∀ x ∈ as, kindOf x = some .local) → as.length = us.length →
    (∀ (i : Nat) (x : Str), as[i]? = some x → bindL kindOf (as.zip us) m x = us[i]?) ∧ ∀ y, y ∉ as → bindL kindOf (as.zip us) m y = m y
  | [], us, m, _, _, _ => ⟨fun i x h => by simp at h, fun y _ => by simp [bindL]⟩
  | a :: as, [], m, _, _, h => by simp at h
  | a :: as, u :: us, m, hn, hk, hl => by
    obtain ⟨h1, h2⟩ := List.nodup_cons.mp hn
    obtain ⟨i1, i2⟩ := bindL_at as us (fun y => if y = a then some u else m y) h2 (fun x hx => hk x (List.mem_cons_of_mem _ hx)) (by simpa using hl)
    have hka := hk a (List.mem_cons_self ..)
    rw [List.zip_cons_cons]
    have e : bindL kindOf ((a, u) :: as.zip us) m = bindL kindOf (as.zip us) (fun y => if y = a then some u else m y) := by
      show bindL kindOf (as.zip us) (if kindOf a = some .local then fun y => if y = a then some u else m y else m) = _
      rw [if_pos hka]
    rw [e]
    refine ⟨fun i x hx => ?_, fun y hy => ?_⟩
    · cases i with
      | zero =>
        simp only [List.getElem?_cons_zero, Option.some.injEq] at hx
        subst hx
        rw [i2 a h1]; simp
      | succ i => exact i1 i x (by simpa using hx)
    · rw [i2 y fun z => hy (List.mem_cons_of_mem _ z)]
      simp [show y ≠ a from fun z => hy (z ▸ List.mem_cons_self ..)]
theorem bindC_none {kindOf : Str → Option NameKind} : ∀ (as : List Str) (us : List Value) (m : Str → Option Value), (∀ x ∈ as, kindOf x = some .local) → bindC kindOf (as.zip us) m = m
  | [], us, m, _ => by simp [bindC]
  | a :: as, [], m, _ => by simp [bindC]
  | a :: as, u :: us, m, hk => by
    rw [List.zip_cons_cons]
    show bindC kindOf (as.zip us) (if kindOf a = some .local then m else fun y => if y = a then some u else m y) = m
    rw [if_pos (hk a (List.mem_cons_self ..))]
    exact bindC_none as us m fun x hx => hk x (List.mem_cons_of_mem _ hx)
structure CFn (params : Arguments) (scope : Scope) (body : List Stmt) (as : List Str) (ib : ISs) : Prop where
  nofree : ∀ x ∈ scope.names, x.2 ≠ .free
  kind : scope.kind = .function
  gen : scope.isGenerator = false
  co : scope.isCoroutine = false
  nodup : as.Nodup
  slots : (slotsOf 0 scope.names).take as.length = (as.zip (List.range as.length))
  loc : ∀ x ∈ as, scope.names.lookup x = some .local
  body : cSs (cS glb aidx depthC (ceOf scope.names) (slotsOf 0 scope.names).length) body = some ib
theorem cFn_is {params : Arguments} {scope : Scope} {body : List Stmt} {as : List Str} {ib : ISs} (h : cFn params scope body = some (as, ib)) : CFn params scope body as ib := by
  unfold cFn at h
  revert h; refine bE fun as' ha h => ?_
  obtain ⟨⟨q1, q2, q3, q4, q5, q6, q7, q8⟩, h⟩ := ite_some h
  revert h; refine bE fun b hb h => ?_
  first | obtain rfl := Option.some.inj h | cases h
  exact ⟨fun x hx => by simpa using List.all_eq_true.mp q1 x hx, q2, q3, q4, q5, q6, fun x hx => by simpa using List.all_eq_true.mp q7 x hx, hb⟩
section
variable {c : Ctx}
theorem enter_s {d : Nat} {fn : Fn} {a : Addr} {oc : Value} {od : Option Addr} {fd : FuncData} {osl : Array (Option Value)} {body : List Stmt} {as : List Str} (hat : FnOf c a fn oc od fd osl body as) {A : Around} {s : Shared} {σ : AH} {ρ : Rho} {us : List Value} {env0 : LE} (R : Room2 A (d + 1)) (I : Inv c σ ρ s.heap)
    (hul : us.length = fn.n) (hel : env0.length = fn.n) (rs : ∀ (i : Nat) (v : V), env0[i]? = some (some v) → ∃ u, us[i]? = some u ∧ VRep s.heap ρ v u) {RR : Result → Shared → Prop}
    (k : ∀ (pe : Env) (h₁ : Heap) (tk₁ : Nat) (E : Value → Shared → Prop), cSs (cS glb aidx depthC (ceOf fd.scope.names) (slotsOf 0 fd.scope.names).length) body = some fn.body → Room (A.deeper pe) d → Fp c (ceOf fd.scope.names) pe → Inv c σ ρ h₁ → Ext s.heap ρ h₁ ρ →
      Frm c (ceOf fd.scope.names) (env0 ++ List.replicate fn.m none) pe ρ h₁ → (∃ m, h₁.Ns pe.locals m ∧ ∀ (i : Nat) (x : Str), as[i]? = some x → m x = us[i]?) → (∀ h' ρ', SX (ceOf fd.scope.names) pe h₁ ρ h' ρ' → Ext s.heap ρ h' ρ') →
      wpAny (model c.prog c.w) (A.deeper pe) (execs body pe) (fun f s' => RR (.ok (.ret (match f with | .ret v => v | _ => .none))) s') E { s with heap := h₁, toks := tk₁ }) :
    codeAny (model c.prog c.w) A (.call (.ref a) ⟨us, []⟩) RR s := by
  obtain ⟨hkeep, hlk, hgl, hclo, hblt, hcode, hbody, hcf, hasl, hbind⟩ := hat
  have C := cFn_is hcf
  have ho := I.inK a _ hlk
  have slot_as : ∀ (i : Nat) (x : Str), as[i]? = some x → (x, i) ∈ slotsOf 0 fd.scope.names := fun i x h => by
    have hlt := (List.getElem?_eq_some_iff.mp h).1
    have : (as.zip (List.range as.length))[i]? = some (x, i) := List.getElem?_zip_eq_some.mpr ⟨h, by simp [hlt]⟩
    rw [← C.slots] at this
    exact List.mem_of_mem_take (List.mem_of_getElem? this)
  refine codeAny_call_cells (fd := fd) (vals := us) (binds := as.zip us) ?_ ho rfl I.top.nolimit (codeRec_of I.inK hcode) hbody (hbind us hul) hclo (fun x hx => ?_) (fun s₁ X => ?_) C.co C.gen C.kind
  · have := R.depth; lia
  · have := List.of_mem_zip hx
    exact .inl (C.loc x.1 this.1)
  obtain ⟨h₁, tk₁, hs₁⟩ := X.toInCall.same
  subst hs₁
  generalize hpe : callEnvC fd s.heap.objs.size a = pe at X ⊢
  have pL : pe.locals = s.heap.objs.size := by rw [← hpe]; rfl
  have pS : pe.scope = fd.scope := by rw [← hpe]; rfl
  have pC : pe.cells = cellsFrom (s.heap.objs.size + 1) fd.scope.names [] := by rw [← hpe]; rfl
  have pG : pe.globals = mainGlobals := by rw [← hpe]; exact hgl
  have pB : pe.builtins = builtinsNs := by rw [← hpe]; exact hblt
  have pK : ∀ x, pe.kindOf x = fd.scope.names.lookup x := fun x => by unfold Env.kindOf; rw [pS]
  have keep := X.toInCall.keep
  have x₁ : Ext s.heap ρ h₁ ρ := Ext.all keep
  have I₁ : Inv c σ ρ h₁ := I.all keep
  have fresh : ∀ b, s.heap.objs.size ≤ b → s.heap.get? b = none := fun b hb => by
    cases z : s.heap.get? b with
    | none => rfl
    | some o => exact absurd (Heap.lt_size z) (Nat.not_lt.mpr hb)
  have goff : ∀ b, s.heap.objs.size ≤ b → c.g.get? b = none := fun b hb => by
    cases z : c.g.get? b with
    | none => rfl
    | some o => have := I.keep b o z; rw [fresh b hb] at this; cases this
  obtain ⟨b1, b2⟩ := bindL_at (kindOf := pe.kindOf) as us (fun _ => none) C.nodup (fun x hx => by rw [pK]; exact C.loc x hx) (by lia)
  have bc : bindC pe.kindOf (as.zip us) (fun _ => none) = fun _ => none := bindC_none as us _ fun x hx => by rw [pK]; exact C.loc x hx
  have envAt : ∀ (k : Nat) (v : V), (env0 ++ List.replicate fn.m none)[k]?.join = some v → k < as.length ∧ env0[k]? = some (some v) := fun k v e => by
    by_cases hk : k < env0.length
    · rw [List.getElem?_append_left hk] at e
      refine ⟨by lia, ?_⟩
      cases z : env0[k]? with
      | none => rw [z] at e; cases e
      | some w => rw [z] at e; simpa using e
    · rw [List.getElem?_append_right (by lia), List.getElem?_replicate] at e
      split at e <;> cases e
  have asAt : ∀ y k, (slotsOf 0 fd.scope.names).lookup y = some k → k < as.length → as[k]? = some y := fun y k hy hk => by
    have h1 := slot_as k as[k] (List.getElem?_eq_getElem hk)
    have h2 := mem_of_lookup hy
    rw [List.getElem?_eq_getElem hk, slots_uniq h1 h2]
  have Fm : Frm c (ceOf fd.scope.names) (env0 ++ List.replicate fn.m none) pe ρ h₁ := by
    refine ⟨by rw [pS]; exact C.kind, by rw [pS]; rfl, pG, pB, ?_, ⟨_, X.toInCall.ns, fun y k v hy hk e => ?_⟩, fun y k hy hk => ?_⟩
    · rw [pL]; exact I.fresh (fresh _ (Nat.le_refl _))
    · obtain ⟨hka, hv'⟩ := envAt k v e
      have hy' := asAt y k hy hka
      obtain ⟨u, hu, ru⟩ := rs k v hv'
      exact ⟨u, by rw [b1 k y hy']; exact hu, ru.ext x₁⟩
    · have hk' : fd.scope.names.lookup y = some .cell := by
        rcases hk with z | z
        · exact z
        · exact absurd rfl (C.nofree _ (mem_of_lookup z))
      obtain ⟨a', ha'⟩ := (cellsFrom_has (names := fd.scope.names) (n := s.heap.objs.size + 1) (acc := [])).2 y (mem_of_lookup hk')
      obtain ⟨a'', ha''⟩ := lookup_of_mem ha'
      rw [← pC] at ha''
      have hc := X.cell y a'' ha''
      rw [bc] at hc
      have hab := X.above y a'' (mem_of_lookup ha'')
      rw [pL] at hab
      refine ⟨a'', none, ha'', I.fresh (fresh _ (Nat.le_of_lt hab)), ?_, hc, fun v e => ?_⟩
      · rw [pL]; exact Nat.ne_of_gt hab
      · obtain ⟨hka, _⟩ := envAt k v e
        have := C.loc y (List.mem_of_getElem? (asAt y k hy hka))
        rw [hk'] at this; cases this
  have P : Fp c (ceOf fd.scope.names) pe := by
    refine ⟨fun x y k h1 h2 => slots_uniq (mem_of_lookup h1) (mem_of_lookup h2), fun x y a h1 h2 => name_of_addr X.apart (mem_of_lookup h1) (mem_of_lookup h2), fun x h => ?_, ?_, fun x k a h1 h2 h3 => ?_⟩
    · exact absurd rfl (C.nofree _ (mem_of_lookup h))
    · rw [pL]; exact goff _ (Nat.le_refl _)
    · have hab := X.above x a (mem_of_lookup h3)
      rw [pL] at hab
      exact goff _ (Nat.le_of_lt hab)
  have Rm : Room (A.deeper pe) d := ⟨R.hand, by
    have := R.depth
    show A.depth + 1 + 3 * d + 3 < recursionLimit
    lia, by
    have := R.units
    show A.units + 3 + 20 * d + 120 < cLine
    lia⟩
  refine k pe h₁ tk₁ _ C.body Rm P I₁ x₁ Fm ⟨_, X.toInCall.ns, b1⟩ fun h' ρ' x => ?_
  obtain ⟨nn, hn, hnn⟩ := x.new
  refine ⟨⟨nn, hn, fun p hp => ⟨?_, ?_⟩⟩, fun b o t e => x.keep b o t ⟨fun z => ?_, fun y k a h1 h2 h3 z => ?_⟩ (keep b o e)⟩
  · cases z : s.heap.get? p.1 with
    | none => rfl
    | some o => have := keep _ o z; rw [(hnn p hp).1] at this; cases this
  · cases z : s.heap.get? p.2 with
    | none => rfl
    | some o => have := keep _ o z; rw [(hnn p hp).2] at this; cases this
  · rw [z, pL, fresh _ (Nat.le_refl _)] at e; cases e
  · have hab := X.above y a (mem_of_lookup h3)
    rw [pL] at hab
    rw [z, fresh _ (Nat.le_of_lt hab)] at e; cases e
theorem sound (W : World c) : ∀ d, Sound c (runF initOf tbl d) d
  | 0 => fun f vs σ v σ' e => by cases e
  | d + 1 => by
    intro f vs σ v σ' e fn hfn a hat A s ρ us R I rs RR k
    have ih := sound W d
    have hF2 : HasF (runF initOf tbl d) := fun f vs σ r e => by
      cases d with
      | zero => cases e
      | succ d =>
        revert e; refine bE fun fn h _ => ?_
        exact ⟨fn, h⟩
    revert e; refine bE fun fn' hfn' e => ?_
    obtain rfl := Option.some.inj (hfn.symm.trans hfn')
    revert e; refine iE fun hlen e => ?_
    revert e; refine bE3 fun fl env' σ2 hq e => ?_
    revert e; refine mE fun v' hv e => ?_
    cases e
    obtain ⟨oc, od, fd, osl, body, as, hat⟩ := hat
    refine enter_s hat (env0 := vs.map some) R I (by rw [← rs.length]; exact hlen) (by rw [List.length_map]; exact hlen) (fun i v h => ?_) fun pe h₁ tk₁ E hb Rm P I₁ x₁ Fm _ xt => ?_
    · rw [List.getElem?_map] at h
      cases z : vs[i]? with
      | none => rw [z] at h; cases h
      | some w => rw [z] at h; simp only [Option.map_some, Option.some.injEq] at h; subst h; exact rs.get z
    refine block_s (stmt_ok W ih hF2 depthC) Rm P body fn.body hb { s with heap := h₁, toks := tk₁ } σ ρ _ _ I₁ Fm hq fun f ρ' h' tk x I' F' r => ?_
    have x' := xt h' ρ' x
    cases r with
    | next => cases hv; exact k .none ρ' h' tk x' I' .none
    | brk => cases hv
    | cont => cases hv
    | ret r => cases hv; exact k _ ρ' h' tk x' I' r
end
end Mine
namespace Mine
open PySem PySem.W PyProof.Rows PySem.Calls
theorem plain_is {p : Arguments} {as : List Str} (h : plainArgs p = some as) : ∃ xs, p = ⟨[], xs, none, [], [], none, []⟩ ∧ as = xs.map (·.arg) := by
  revert h; refine iE fun hq h => ?_
  obtain ⟨a1, a2, a3, a4, a5, a6, a7⟩ := p
  obtain ⟨h1, h2, h3, h4, h5, h6⟩ := hq
  obtain rfl := List.isEmpty_iff.mp h1
  obtain rfl := Option.isNone_iff_eq_none.mp h2
  obtain rfl := List.isEmpty_iff.mp h3
  obtain rfl := List.isEmpty_iff.mp h4
  obtain rfl := Option.isNone_iff_eq_none.mp h5
  obtain rfl := List.isEmpty_iff.mp h6
  exact ⟨a2, rfl, (Option.some.inj h).symm⟩
theorem lookup_zip : ∀ (as : List Str) (us : List Value), as.Nodup → as.length = us.length → (∀ x ∈ as, ((as.zip us).lookup x).isSome = true) ∧
    ∀ (l : List (Str × Value)), (∀ x ∈ as, l.lookup x = (as.zip us).lookup x) → as.filterMap (fun n => (l.lookup n).map fun v => (n, v)) = as.zip us
  | [], us, _, _ => ⟨fun x h => (nomatch h), fun l _ => by simp⟩
  | a :: as, [], _, h => by simp at h
  | a :: as, u :: us, hn, h => by
    obtain ⟨h1, h2⟩ := List.nodup_cons.mp hn
    obtain ⟨i1, i2⟩ := lookup_zip as us h2 (by simpa using h)
    have other : ∀ x, x ∈ as → ((a, u) :: as.zip us).lookup x = (as.zip us).lookup x := fun x hx => by
      have : (x == a) = false := by
        rw [beq_eq_false_iff_ne]
        rintro rfl
        exact h1 hx
      rw [List.lookup_cons, this]
    refine ⟨fun x hx => ?_, fun l hl => ?_⟩
    · rw [List.zip_cons_cons]
      rcases List.mem_cons.mp hx with rfl | hx
      · simp
      · rw [other x hx]; exact i1 x hx
    · rw [List.zip_cons_cons] at hl ⊢
      rw [List.filterMap_cons, hl a (List.mem_cons_self ..)]
      have e : ((a, u) :: as.zip us).lookup a = some u := by simp
      rw [e]
      simp only [Option.map_some]
      rw [i2 l fun x hx => (hl x (List.mem_cons_of_mem _ hx)).trans (other x hx)]
theorem bind_plain {fd : FuncData} {as : List Str} {us : List Value} (hp : plainArgs fd.params = some as) (hd : fd.defaults = .none) (hn : as.Nodup) (hl : as.length = us.length) : bindArgs fd ⟨us, []⟩ = pure (as.zip us) := by
  obtain ⟨xs, hx, rfl⟩ := plain_is hp
  obtain ⟨l1, l2⟩ := lookup_zip _ _ hn hl
  have l3 := l2 _ fun _ _ => rfl
  clear hp
  have h1 : ¬ (decide (us.length > (xs.map (·.arg)).length) && true) = true := fun h => by
    have := of_decide_eq_true ((Bool.and_eq_true _ _).mp h).1
    lia
  have h2 : ¬ (!(((xs.map (·.arg)).take ((xs.map (·.arg)).length - (List.drop (0 - (xs.map (·.arg)).length) ([] : List Value)).length)).filter (fun n => (((xs.map (·.arg)).zip us).lookup n).isNone)).isEmpty) = true := by
    rw [List.drop_nil, List.length_nil, Nat.sub_zero, List.take_length]
    have hm : (xs.map (·.arg)).filter (fun n => (((xs.map (·.arg)).zip us).lookup n).isNone) = [] := by
      rw [List.filter_eq_nil_iff]
      intro x hx h
      have := l1 x hx
      rw [Option.isNone_iff_eq_none.mp h] at this; cases this
    rw [hm]; exact fun h => nomatch h
  delta bindArgs
  rw [hx, hd]
  refine (if_neg h1).trans ?_
  refine (if_neg h2).trans ?_
  show (forIn (List.zip _ (List.drop _ ([] : List Value))) _ _ >>= _) = _
  rw [List.drop_nil, List.zip_nil_right]
  show (pure (List.filterMap _ (xs.map (·.arg) ++ [])) : Sem (List (Str × Value))) = _
  rw [List.append_nil]
  exact congrArg pure l3
noncomputable def vFd : (d : Data) → Option {fd : FuncData // d = .func fd}
  | .func fd => some ⟨fd, rfl⟩
  | _ => none
noncomputable def fdIn (K : Frag) (a : Addr) : Option FuncData := (K.lookup a).bind fun o => (vFd o.data).map (·.1)
noncomputable def noneV : Value → Bool
  | .none => true
  | _ => false
noncomputable def vBd : (b : FuncBody) → Option {l : List Stmt // b = .stmts l}
  | .stmts l => some ⟨l, rfl⟩
  | _ => none
noncomputable def fnTm (K : Frag) (a : Addr) : Option (Nat × ISs) := (fdIn K a).bind fun fd =>
  if (keepIn K (.ref a) && (fd.globals == mainGlobals) && fd.closure.isEmpty && (fd.builtins == builtinsNs) && codeIn K fd.code fd.qualname && noneV fd.defaults) = true then
    (vBd fd.body).bind fun b => (cFn fd.params fd.scope b.1).map fun p => (p.1.length, p.2) else none
theorem fdIn_is {K : Frag} {a : Addr} {fd : FuncData} (h : fdIn K a = some fd) : ∃ oc od osl, K.lookup a = some ⟨oc, od, .func fd, osl⟩ := by
  revert h; refine bE fun o e h => ?_
  revert h; refine mE fun q _ h => ?_
  obtain ⟨q, hq⟩ := q
  obtain rfl : q = fd := h
  obtain ⟨oc, od, dt, osl⟩ := o
  obtain rfl : dt = .func q := hq
  exact ⟨oc, od, osl, e⟩
theorem of_beq {α : Type} [BEq α] [LawfulBEq α] {a b : α} (h : (a == b) = true) : a = b := eq_of_beq h
theorem fnOf_of {c : Ctx} {a : Addr} {fn : Fn} {fd : FuncData} {body : List Stmt} (h : fnTm c.K a = some (fn.n, fn.body)) (hf : fdIn c.K a = some fd) (hb : fd.body = .stmts body) : ∃ oc od osl as, FnOf c a fn oc od fd osl body as := by
  revert h; refine bE fun fd' hf' h => ?_
  obtain rfl := Option.some.inj (hf.symm.trans hf')
  revert h; refine iE fun q h => ?_
  revert h; refine bE fun bd _ h => ?_
  obtain ⟨bd, hbd⟩ := bd
  obtain rfl := FuncBody.stmts.inj (hb.symm.trans hbd)
  revert h; refine mE2 fun as ib hc h => ?_
  obtain ⟨h1, rfl⟩ := Prod.mk.inj h
  revert q; refine aBe fun q q6 => ?_
  revert q; refine aBe fun q q5 => ?_
  revert q; refine aBe fun q q4 => ?_
  revert q; refine aBe fun q q3 => ?_
  revert q; refine aBe fun q1 q2 => ?_
  have q2 := of_beq q2
  have q3 := List.isEmpty_iff.mp q3
  have q4 := of_beq q4
  obtain ⟨oc, od, osl, hl⟩ := fdIn_is hf
  refine ⟨oc, od, osl, as, q1, hl, q2, q3, q4, q5, hb, hc, h1, fun us hu => bind_plain ?_ ?_ ?_ (by lia)⟩
  · revert hc; refine bE fun as' ha hc => ?_
    revert hc; refine iE fun _ hc => ?_
    revert hc; refine bE fun b _ hc => ?_
    obtain ⟨rfl, _⟩ := Prod.mk.inj (Option.some.inj hc)
    exact ha
  · revert q6
    cases fd.defaults <;> intro q6 <;> first | rfl | exact tE q6.symm
  · exact (cFn_is hc).nodup
theorem fnAt_of {c : Ctx} {a : Addr} {fn : Fn} (h : fnTm c.K a = some (fn.n, fn.body)) : FnAt c a fn := by
  have h' := h
  revert h'; refine bE fun fd hf h' => ?_
  revert h'; refine iE fun _ h' => ?_
  revert h'; refine bE fun bd _ _ => ?_
  obtain ⟨body, hb⟩ := bd
  obtain ⟨oc, od, osl, as, r⟩ := fnOf_of h hf hb
  exact ⟨oc, od, fd, osl, body, as, r⟩
noncomputable def oB {α : Type} (o : Option α) (f : α → Bool) : Bool := match o with
  | some a => f a
  | none => false
theorem oBe {α : Type} {o : Option α} {f : α → Bool} {G : Prop} (k : ∀ a, o = some a → f a = true → G) (h : oB o f = true) : G := by
  cases o with
  | none => cases h
  | some a => exact k a rfl h
noncomputable def vInt : (v : Value) → Option {i : Int // ∃ t, v = .int i t}
  | .int i t => some ⟨i, t, rfl⟩
  | _ => none
noncomputable def vStrV : (v : Value) → Option {x : Str // ∃ t, v = .str x t}
  | .str x t => some ⟨x, t, rfl⟩
  | _ => none
noncomputable def vRef : (v : Value) → Option {a : Addr // v = .ref a}
  | .ref a => some ⟨a, rfl⟩
  | _ => none
noncomputable def vTy : (v : Value) → Option {a : String // v = .type a}
  | .type a => some ⟨a, rfl⟩
  | _ => none
noncomputable def vSeq : (d : Data) → Option {us : Array Value // ∃ k, d = .seq us k}
  | .seq us k => some ⟨us, k, rfl⟩
  | _ => none
noncomputable def gB (K : Frag) (cls : Nat → Addr) (fa : Nat → Addr) (x : Str) : GK → Bool
  | .int i => oB (nsIn K mainGlobals x) fun o => oB o fun v => oB (vInt v) fun j => decide (i = j.1)
  | .str y => oB (nsIn K mainGlobals x) fun o => oB o fun v => oB (vStrV v) fun z => decide (z.1.cps.toList = y)
  | .tup xs => decide (xs.length ≤ 1000) && oB (nsIn K mainGlobals x) fun o => oB o fun v => oB (vRef v) fun a => oB (K.lookup a.1) fun ob => oB (vTy ob.cls) fun t => oB (vSeq ob.data) fun us =>
      decide (t.1 = "tuple") && (ob.dict.isNone && (ob.slots.isEmpty && decide ((us.1.toList.map fun u => (vInt u).map (·.1)) = xs.map some)))
  | .fn i => oB (nsIn K mainGlobals x) fun o => oB o fun v => oB (vRef v) fun a => decide (a.1 = fa i)
  | .cls i => decide (i < 3) && oB (nsIn K mainGlobals x) fun o => oB o fun v => oB (vRef v) fun a => decide (a.1 = cls i)
  | .bi b => (oB (nsIn K mainGlobals x) fun o => o.isNone) && (decide (bootBuiltins x = some (biVal b)) && decide (x ≠ "__name__"))
theorem tup_ts : ∀ (us : List Value) (xs : List Int), (us.map fun u => (vInt u).map (·.1)) = xs.map some → ∃ ts : List Tok, us = (xs.zip ts).map (fun p => Value.int p.1 p.2) ∧ ts.length = xs.length
  | [], [], _ => ⟨[], rfl, rfl⟩
  | [], _ :: _, h => nomatch h
  | _ :: _, [], h => nomatch h
  | u :: us, x :: xs, h => by
    obtain ⟨h1, h2⟩ := List.cons.inj h
    obtain ⟨ts, e, l⟩ := tup_ts us xs h2
    revert h1; refine mE fun q _ h1 => ?_
    obtain ⟨i, t, rfl⟩ := q
    obtain rfl : i = x := h1
    exact ⟨t :: ts, by rw [e]; rfl, by rw [List.length_cons, l, List.length_cons]⟩
theorem gOk_of {c : Ctx} {fa : Nat → Addr} (hfa : ∀ i fn, tbl i = some fn → fnTm c.K (fa i) = some (fn.n, fn.body)) {x : Str} {g : GK} (h : gB c.K c.cls fa x g = true) : GOk c x g := by
  cases g with
  | int i =>
    revert h; refine oBe fun o e h => ?_
    revert h; refine oBe fun v e2 h => ?_
    revert h; refine oBe fun j _ h => ?_
    obtain ⟨j, t, rfl⟩ := j
    obtain rfl : i = j := of_decide_eq_true h
    obtain rfl : o = _ := e2
    exact ⟨t, e⟩
  | str y =>
    revert h; refine oBe fun o e h => ?_
    revert h; refine oBe fun v e2 h => ?_
    revert h; refine oBe fun z _ h => ?_
    obtain ⟨z, t, rfl⟩ := z
    obtain rfl : z.cps.toList = y := of_decide_eq_true h
    obtain rfl : o = _ := e2
    exact ⟨t, e⟩
  | tup xs =>
    revert h; refine aBe fun h0 h => ?_
    revert h; refine oBe fun o e h => ?_
    revert h; refine oBe fun v e2 h => ?_
    revert h; refine oBe fun a _ h => ?_
    obtain ⟨a, rfl⟩ := a
    obtain rfl : o = _ := e2
    revert h; refine oBe fun ob el h => ?_
    obtain ⟨oc, od, dt, sl⟩ := ob
    revert h; refine oBe fun t _ h => ?_
    revert h; refine oBe fun us _ h => ?_
    obtain ⟨t, ht⟩ := t
    obtain ⟨us, k, hus⟩ := us
    obtain rfl : oc = .type t := ht
    obtain rfl : dt = .seq us k := hus
    revert h; refine aBe fun h1 h => ?_
    revert h; refine aBe fun h2 h => ?_
    revert h; refine aBe fun h3 h => ?_
    obtain rfl : t = "tuple" := of_decide_eq_true h1
    obtain rfl : od = none := Option.isNone_iff_eq_none.mp h2
    obtain rfl : sl = #[] := Array.isEmpty_iff.mp h3
    obtain ⟨ts, e2, l⟩ := tup_ts us.toList xs (of_decide_eq_true h)
    refine ⟨a, k, ts, e, ?_, l, of_decide_eq_true h0⟩
    rw [el]
    show some (⟨.type "tuple", none, .seq us k, #[]⟩ : Obj) = some ⟨.type "tuple", none, .seq (List.toArray _) k, #[]⟩
    rw [← e2]
  | fn i =>
    revert h; refine oBe fun o e h => ?_
    revert h; refine oBe fun v e2 h => ?_
    revert h; refine oBe fun a _ h => ?_
    obtain ⟨a, rfl⟩ := a
    obtain rfl : a = fa i := of_decide_eq_true h
    obtain rfl : o = _ := e2
    exact ⟨_, e, fun fn hf => fnAt_of (hfa i fn hf)⟩
  | cls i =>
    revert h; refine aBe fun h0 h => ?_
    revert h; refine oBe fun o e h => ?_
    revert h; refine oBe fun v e2 h => ?_
    revert h; refine oBe fun a _ h => ?_
    obtain ⟨a, rfl⟩ := a
    obtain rfl : a = c.cls i := of_decide_eq_true h
    obtain rfl : o = _ := e2
    exact ⟨of_decide_eq_true h0, e⟩
  | bi b =>
    revert h; refine aBe fun h1 h => ?_
    revert h; refine aBe fun h2 h3 => ?_
    revert h1; refine oBe fun o e h1 => ?_
    obtain rfl := Option.isNone_iff_eq_none.mp h1
    exact ⟨e, of_decide_eq_true h2, of_decide_eq_true h3⟩
noncomputable def cB (K : Frag) (C f : Addr) : Bool :=
  keepIn K (.ref C) && makesIn K C && (findIn K (.ref C) "__init__" == some (some (.ref f))) && isFn K (.ref f) && plainGet K C (anm 0) && hasDictIn K C &&
    (findIn K (.ref C) "__setattr__" == some (some (.builtin "object.__setattr__"))) && plainOver K C && (List.range 28).all fun a => findIn K (.ref C) (anm a) == some none
theorem clsAt_of {c : Ctx} {fa : Nat → Addr} (hfa : ∀ i fn, tbl i = some fn → fnTm c.K (fa i) = some (fn.n, fn.body)) {i : Nat} (h : cB c.K (c.cls i) (fa (initOf i)) = true) : ClsAt c i := by
  simp only [cB, Bool.and_eq_true, beq_iff_eq, List.all_eq_true, List.mem_range] at h
  obtain ⟨⟨⟨⟨⟨⟨⟨⟨h1, h2⟩, h3⟩, h4⟩, h5⟩, h6⟩, h7⟩, h8⟩, h9⟩ := h
  exact ⟨h1, h2, ⟨_, h3, h4, fun fn hf => fnAt_of (hfa _ fn hf)⟩, h5, h6, h7, h8, h9⟩
theorem aidx_inj : ∀ x a, aidx.lookup x = some a → a < 28 ∧ anm a = x := by
  intro x a h
  have hm := mem_of_lookup h
  have gen : ∀ p ∈ aidx, p.2 < 28 ∧ anm p.2 = p.1 := by decide +kernel
  exact gen _ hm
theorem world_of {c : Ctx} {fa : Nat → Addr} (hfa : ∀ i fn, tbl i = some fn → fnTm c.K (fa i) = some (fn.n, fn.body)) (hg : (glb.all fun p => gB c.K c.cls fa p.1 p.2) = true) (hc : ((List.range 3).all fun i => cB c.K (c.cls i) (fa (initOf i))) = true) : World c := by
  refine ⟨fun x g h => gOk_of hfa (List.all_eq_true.mp hg _ (mem_of_lookup h)), fun i hi => clsAt_of hfa (List.all_eq_true.mp hc i (List.mem_range.mpr hi)), aidx_inj⟩
end Mine
namespace Mine
open PySem PySem.W PyProof.Rows PySem.Calls
structure LH where
  tp : Pos
  p1 : Pos
  p2 : Pos
  np : Pos
  p3 : Pos
  p4 : Pos
  p5 : Pos
  p6 : Pos
  p7 : Pos
  p8 : Pos
  k1 : Nat
  k2 : Nat
  k3 : Nat
  k4 : Nat
  rest : List Stmt
noncomputable def LH.stmt (H : LH) : Stmt := .Assign [.Name "press" H.tp] (.Dict [some (.Constant (.str "row") H.k1 H.p1), some (.Constant (.str "at") H.k2 H.p2)] [.Subscript (.Name "script" H.np) (.Slice none (some (.Constant (.int 30) H.k3 H.p3)) none H.p4) H.p5, .Constant (.int 0) H.k4 H.p6] H.p7) H.p8
noncomputable def lawH (r : List Stmt) : LH := ⟨⟨568, 4, 568, 9⟩, ⟨568, 13, 568, 18⟩, ⟨568, 33, 568, 37⟩, ⟨568, 20, 568, 26⟩, ⟨568, 28, 568, 30⟩, ⟨568, 27, 568, 30⟩, ⟨568, 20, 568, 31⟩, ⟨568, 39, 568, 40⟩, ⟨568, 12, 568, 41⟩, ⟨568, 4, 568, 41⟩, 0, 0, 0, 0, r⟩
noncomputable def restOf (b : FuncBody) : List Stmt := match b with
  | .stmts l => l.tail
  | _ => []
noncomputable def lawOk (K : Frag) (a : Addr) : Prop := ∃ R, (fdIn K a).map (fun fd => (plainArgs fd.params, fd.body)) = some (some [("script" : Str)], FuncBody.stmts ((lawH R).stmt :: R))
noncomputable def lawRest : ISs := match f_law.body with
  | .cons _ r => r
  | .nil => .nil
theorem intsRep {h : Heap} {ρ : Rho} : ∀ {us : List Value} {xs : List Int}, IntsAre us xs → VsRep h ρ (xs.map .int) us
  | _, _, .nil => .nil
  | _, _, .cons i t r => .cons (.int i t) (intsRep r)
theorem cut30 (xs : List Int) : cutL (xs.map V.int) none (some 30) = (xs.take 30).map V.int := by
  simp [cutL, List.map_take]
section
variable {c : Ctx}
theorem some_part {A : Around} {E : Value → Shared → Prop} {s : Shared} {pe : Env} {e : Expr} {Q : Value → Shared → Prop} (h : wpAny (model c.prog c.w) A (eval e pe) Q E s) : wpAny (model c.prog c.w) A (evalPart (some e) pe) Q E s := h
theorem script_s {A : Around} {E : Value → Shared → Prop} {s : Shared} {pe : Env} {σ : AH} {ρ : Rho} {m : Str → Option Value} {w2 : Addr} {us : List Value} {xs : List Int} {np p3 p4 p5 : Pos} {k3 : Nat} {Q : Value → Shared → Prop} (I : Inv c σ ρ s.heap) (hkf : pe.scope.kind = .function)
    (hkind : pe.kindOf "script" = some .local) (hm : s.heap.Ns pe.locals m) (hs : m "script" = some (.ref w2)) (hL : s.heap.IsList w2 us.toArray) (hI : IntsAre us xs) (hlen : xs.length ≤ 63) (k : Kont c s ρ (σ ++ [.list ((xs.take 30).map .int)]) (.obj σ.length) Q) :
    wpAny (model c.prog c.w) A (eval (.Subscript (.Name "script" np) (.Slice none (some (.Constant (.int 30) k3 p3)) none p4) p5) pe) Q E s := by
  refine Subscript_ (wpAny_Name (wpAny_loadName_local hkf hkind hm hs ?_) (by decide))
  refine wpAny_Slice (none_part ?_)
  refine some_part (wpAny_Constant_int (none_part ?_))
  have hL2 : (s.heap.push { cls := .type "slice", data := .fields #[.none, .int 30 s.toks, .none] }).IsList w2 us.toArray := by
    obtain ⟨o, e, r⟩ := hL
    exact ⟨o, Heap.get?_push_of_some _ e, r⟩
  have husl : us.length = xs.length := hI.length
  refine tailG (T := "list") (id := "list.__getitem__") (Heap.IsList.typeIs (s := { s with heap := s.heap.push { cls := .type "slice", data := .fields #[.none, .int 30 s.toks, .none] }, toks := s.toks + 1 }) hL2) slot_list_getitem.lookup ?_
  refine wpAny_getItem_list_slice hL2 (Heap.IsSliceOf.new ..) .none (.int 30 _) .none (by simp) ?_ (by rw [List.size_toArray, sizeLine_is]; lia)
  have hpk := pick_is us none (some 30)
  simp only [Option.map_none, Option.map_some] at hpk
  rw [show (some (30 : Int)) = some (Int.ofNat 30) from rfl, hpk]
  have xp : Ext s.heap ρ (s.heap.push { cls := .type "slice", data := .fields #[.none, .int 30 s.toks, .none] }) ρ := Ext.push _
  have Ip := I.push { cls := .type "slice", data := .fields #[.none, .int 30 s.toks, .none] }
  have rr := ((intsRep (h := s.heap) (ρ := ρ) hI).ext xp).cut none (some 30)
  rw [cut30] at rr
  obtain ⟨I', x', r'⟩ := allocL (k := 0) Ip rr
  exact k _ _ _ _ (xp.trans Ip x') I' r'
theorem law_walk (W : World c) {D : Nat} {A : Around} {s : Shared} {a w2 : Addr} {us : List Value} {xs : List Int} (R : Room2 A (D + 1)) (hfn : fnTm c.K a = some (f_law.n, f_law.body)) (hlaw : lawOk c.K a) (hg : c.g = s.heap)
    (hL : s.heap.IsList w2 us.toArray) (hI : IntsAre us xs) (hlen : xs.length ≤ 63)
    (PL : ∃ env' σ', exSs initOf (runF initOf tbl D) lawRest (none :: some (.obj 1) :: List.replicate 6 none) [.list ((xs.take 30).map .int), .dict [(26, .obj 0), (27, .int 0)]] = some (.ret (.bool true), env', σ'))
    {RR : Result → Shared → Prop} (k : ∀ h' tk, (∀ b o, s.heap.get? b = some o → h'.get? b = some o) → RR (.ok (.ret (.bool true))) { s with heap := h', toks := tk }) :
    codeAny (model c.prog c.w) A (.call (.ref a) ⟨[.ref w2], []⟩) RR s := by
  obtain ⟨env', σ', hPL⟩ := PL
  obtain ⟨R1, hR1⟩ := hlaw
  revert hR1; refine mE fun fd hfd hH => ?_
  have hpa := (Prod.mk.inj hH).1
  have hbody : ∃ H : LH, fd.body = .stmts (H.stmt :: H.rest) := ⟨lawH R1, (Prod.mk.inj hH).2⟩
  obtain ⟨H, hbody⟩ := hbody
  obtain ⟨oc, od, osl, as, hat⟩ := fnOf_of (c := c) (fn := f_law) hfn hfd hbody
  have has : as = [("script" : Str)] := by
    have hc := hat.term
    revert hc; refine bE fun as' ha hc => ?_
    revert hc; refine iE fun _ hc => ?_
    revert hc; refine bE fun b _ hc => ?_
    obtain ⟨rfl, _⟩ := Prod.mk.inj (Option.some.inj hc)
    rw [hpa] at ha
    exact (Option.some.inj ha).symm
  subst has
  have C := cFn_is hat.term
  have I0 : Inv c [] [] s.heap := ⟨fun b o e => by rw [hg] at e; exact e, fun b t => absurd t Trk.nil, rfl, fun i o p e => by simp at e, fun i j p q e => by simp at e⟩
  refine enter_s hat (env0 := [none]) (us := [.ref w2]) R I0 rfl rfl (fun i v h => ?_) fun pe h₁ tk₁ E hb Rm P I₁ x₁ Fm hm xt => ?_
  · cases i with
    | zero => simp at h
    | succ i => simp at h
  revert hb; refine bE fun i1 hi1 hb => ?_
  revert hb; refine bE fun i2 hi2 hb => ?_
  have hb' : ISs.cons i1 i2 = f_law.body := by cases hb; rfl
  have hr : i2 = lawRest := by
    unfold lawRest; rw [← hb']
  have hs1 : ∃ e, i1 = .asg 1 e := by
    have : f_law.body = .cons (.asg 1 (.dict [26, 27] (.cons (.slice (.var 0) (.cst .none) (.cst (.int 30))) (.cons (.cst (.int 0)) .nil)))) lawRest := rfl
    rw [this] at hb'
    cases hb'; exact ⟨_, rfl⟩
  obtain ⟨e1, rfl⟩ := hs1
  have hpress : cVar (ceOf fd.scope.names) "press" = some 1 := by
    have hc : cS glb aidx (59 + 1) (ceOf fd.scope.names) (slotsOf 0 fd.scope.names).length H.stmt = some (.asg 1 e1) := hi1
    revert hc; refine bE fun k hk hc => ?_
    revert hc; refine eE fun _ hc => ?_
    revert hc; refine bE fun e _ hc => ?_
    cases Option.some.inj hc
    exact hk
  obtain ⟨m, hm, hms⟩ := hm
  have hscript : m "script" = some (.ref w2) := hms 0 "script" rfl
  have hkind : pe.kindOf "script" = some .local := (Fm.kindOf _).trans (C.loc "script" (List.mem_cons_self ..))
  have keep₁ : ∀ b o, s.heap.get? b = some o → h₁.get? b = some o := fun b o e => x₁.keep b o Trk.nil e
  refine wpAny_execs_cons (asg1 rfl rfl rfl ?_)
  refine wpAny_Dict_walk (knd := strKind c.prog c.w) rfl rfl (by simp) (by show 2 ≤ 15; decide) ?_
  have I2 := I₁.push { cls := .type "dict", data := .dict #[] }
  have x2 : Ext h₁ [] (h₁.push { cls := .type "dict", data := .dict #[] }) [] := Ext.push _
  have d0 : (h₁.push { cls := .type "dict", data := .dict #[] }).get? h₁.objs.size = some { cls := .type "dict", data := .dict #[] } := Heap.get?_push_size _ rfl
  have hm2 : (h₁.push { cls := .type "dict", data := .dict #[] }).Ns pe.locals m := hm.at' fun o e => Heap.get?_push_of_some _ e
  have n0 : ¬ Trk ([] : Rho) h₁.objs.size := Trk.nil
  have hL2 : (h₁.push { cls := .type "dict", data := .dict #[] }).IsList w2 us.toArray := by
    obtain ⟨o, e, r⟩ := hL
    exact ⟨o, Heap.get?_push_of_some _ (keep₁ _ _ e), r⟩
  refine evalPairs_cons (wpAny_Constant_str ?_)
  refine wpAny_bind (script_s (σ := []) (ρ := []) I2 Fm.kind hkind hm2 hscript hL2 hI hlen fun u₁ ρ₁ h₃ t₃ x₃ I₃ r₃ => wpAny_bind (wpAny_standAt (wpAny_pure ?_)))
  refine evalPairs_cons (wpAny_Constant_str ?_)
  refine wpAny_bind (wpAny_Constant_int (wpAny_bind (wpAny_standAt (wpAny_pure ?_))))
  refine evalPairs_nil ?_
  have d1 := x₃.keep _ _ n0 d0
  have n1 := x₃.off d0 n0
  refine ⟨[(("row" : Str), u₁), (("at" : Str), .int 0 (t₃ + 1))], ⟨strKind_is _ _ _ _, rfl, strKind_is _ _ _ _, rfl, trivial⟩, ?_, fun h' hm' hs' => ?_⟩
  · exact (Heap.DictOf.new h₁).at fun o e => by rw [d0] at e; cases e; exact d1
  have hxy : ("row" : Str) ≠ "at" := by decide +kernel
  have hmg : merged [] [(("row" : Str), u₁), (("at" : Str), Value.int 0 (t₃ + 1))] = [(("row" : Str), u₁), (("at" : Str), .int 0 (t₃ + 1))] := by simp [merged, stored, hxy]
  rw [hmg] at hm'
  have hgn : c.g.get? h₁.objs.size = none := by
    cases z : c.g.get? h₁.objs.size with
    | none => rfl
    | some o => have := I₁.keep _ o z; rw [get?_size] at this; cases this
  have a26 : anm 26 = "row" := by decide +kernel
  have a27 : anm 27 = "at" := by decide +kernel
  obtain ⟨I', tr⟩ := I₃.adopt (o := .dict [(26, .obj 0), (27, .int 0)]) d1 n1 hgn (by rintro ⟨q, -⟩; simp at q) hs' fun tr => by
    refine .dict hm' ⟨by show 2 ≤ 100; decide, fun k v' e => ?_, fun k v' e => ?_⟩ rfl
    · rcases getF2 e with ⟨rfl, _⟩ | ⟨rfl, _⟩ <;> decide
    · rcases getF2 e with ⟨rfl, rfl⟩ | ⟨rfl, rfl⟩
      · refine ⟨u₁, ?_, r₃.tr tr⟩
        rw [a26]; simp [valueAt]
      · refine ⟨_, ?_, .int 0 (t₃ + 1)⟩
        rw [a27]; simp [valueAt, hxy]
  have xx := Ext.adopt I₃ (x2.trans I2 x₃) (get?_size h₁) hs'
  have rd : VRep h' (ρ₁ ++ [(h₁.objs.size, h₁.objs.size)]) (.obj 1) (.ref h₁.objs.size) := by
    refine .obj (p := (h₁.objs.size, h₁.objs.size)) ?_
    have hl := I₃.len
    have : ρ₁.length = 1 := by simpa using hl
    rw [List.getElem?_append_right (by lia), this]; rfl
  have F' := Fm.ext xx
  refine wpAny_assign_Name (store_s (σ := [.list ((xs.take 30).map .int), .dict [(26, .obj 0), (27, .int 0)]]) P hpress I' F' rd fun h4 tk4 x4 I4 F4 ns4 => ?_)
  dsimp only
  have ih := sound W D
  have hF2 : HasF (runF initOf tbl D) := fun f vs σ r e => by
    cases D with
    | zero => cases e
    | succ d =>
      revert e; refine bE fun fn h _ => ?_
      exact ⟨fn, h⟩
  subst hr
  have henv : (([none] ++ List.replicate f_law.m none : LE).set 1 (some (.obj 1))) = none :: some (.obj 1) :: List.replicate 6 none := rfl
  rw [henv] at F4
  refine block_s (stmt_ok W ih hF2 depthC) Rm P H.rest lawRest hi2 { s with heap := h4, toks := tk4 } _ _ _ _ I4 F4 hPL fun f ρ' h5 tk5 x5 I5 F5 r5 => ?_
  cases r5 with
  | ret r =>
    cases r
    exact k h5 tk5 fun b o e => I5.keep b o (by rw [hg]; exact e)
end
end Mine
namespace Mine
open PySem
noncomputable def pre (n : Nat) : ISs → ISs
  | .cons a r => match n with
    | 0 => .nil
    | n + 1 => .cons a (pre n r)
  | .nil => .nil
noncomputable def post (n : Nat) : ISs → ISs
  | .cons a r => match n with
    | 0 => .cons a r
    | n + 1 => post n r
  | .nil => .nil
noncomputable def base : List AO :=
[.list [.int 2401, .int 2085136, .int 22667121, .int 100000000, .int 294499921, .int 688747536, .int 1387488001, .int 2517630976, .int 4228250625, .int 6690585616, .int 10098039121, .int 14666178816, .int 20632736881,
.int 28257610000, .int 37822859361, .int 49632710656, .int 64013554081, .int 81313944336, .int 101904600625, .int 126178406656, .int 154550410641, .int 187457825296, .int 225360027841, .int 268738560000, .int
318097128001, .int 373961602576, .int 436880018961, .int 507422576896], .list [.int 116985856, .int 332150625, .int 759333136, .int 1506138481, .int 2702336256, .int 4499860561, .int 7072810000, .int 10617447681, .int
15352201216, .int 21517662721, .int 29376588816, .int 39213900625, .int 51336683776, .int 66074188401, .int 83777829136, .int 104821185121, .int 129600000000, .int 158532181921, .int 192057803536, .int 230639102001, .int
274760478976, .int 324928500625, .int 381671897616, .int 445541565121, .int 517110562816, .int 596974114881, .int 685749610000, .int 784076601361], .list [.int 1632240801, .int 2897022976, .int 4784350561, .int
7471182096, .int 11156640625, .int 16062013696, .int 22430753361, .int 30528476176, .int 40642963201, .int 53084160000, .int 68184176641, .int 86297287696, .int 107799932241, .int 133090713856, .int 162590400625, .int
196741925136, .int 236010384481, .int 280883040256, .int 331869318561, .int 389500810000, .int 454331269681, .int 526936617216, .int 607914936721, .int 697886476816, .int 797493650625, .int 907401035776, .int
1028295374401, .int 1160885573136], .list [.int 7886150416, .int 11716114081, .int 16796160000, .int 23372600161, .int 31713911056, .int 42110733681, .int 54875873536, .int 70344300625, .int 88873149456, .int
110841719041, .int 136651472896, .int 166726039041, .int 201511210000, .int 241474942801, .int 287107358976, .int 338920744561, .int 397449550096, .int 463250390625, .int 536902045696, .int 619005459361, .int
710183740176, .int 811082161201, .int 922368160000, .int 1044731338641, .int 1178883463696, .int 1325558466241, .int 1485512441856, .int 1659523650625], .list [.int 24343800625, .int 32933538576, .int 43617904801, .int
56712564736, .int 72555348321, .int 91506250000, .int 113947428721, .int 140283207936, .int 170940075601, .int 206366684176, .int 247033850625, .int 293434556416, .int 346083947521, .int 405519334416, .int 472300192081,
.int 547008160000, .int 630247042161, .int 722642807056, .int 824843587681, .int 937519681536, .int 1061363550625, .int 1197089821456, .int 1345435285041, .int 1507158896896, .int 1683041777041, .int 1873887210000, .int
2080520644801, .int 2303789694976], .list [.int 58594980096, .int 74818113841, .int 94197431056, .int 117117950625, .int 143986855936, .int 175233494881, .int 211309379856, .int 252688187761, .int 299865760000, .int
353360102481, .int 413711385616, .int 481481944321, .int 557256278016, .int 641641050625, .int 735265090576, .int 838779390801, .int 952857108736, .int 1078193566321, .int 1215506250000, .int 1365534810721, .int
1529041063936, .int 1706808989601, .int 1899644732176, .int 2108376600625, .int 2333855068416, .int 2576952773521, .int 2838564518416, .int 3119607270081], .list [.int 120354180241, .int 147763360000, .int 179607287601,
.int 216340335376, .int 258439040161, .int 306402103296, .int 360750390625, .int 422026932496, .int 490796923761, .int 567647723776, .int 653188856401, .int 748052010000, .int 852891037441, .int 968381956096, .int
1095222947841, .int 1234134359056, .int 1385858700625, .int 1551160647936, .int 1730827040881, .int 1925666883856, .int 2136511345761, .int 2364213760000, .int 2609649624481, .int 2873716601616, .int 3157334518321, .int
3461445366016, .int 3787013300625, .int 4135024642576], .list [.int 221460595216, .int 264287499921, .int 313044726016, .int 368255999281, .int 430467210000, .int 500246412961, .int 578183827456, .int 664891837281, .int
761004990736, .int 867180000625, .int 984095744256, .int 1112453263441, .int 1252975764496, .int 1406408618241, .int 1573519360000, .int 1755097689601, .int 1951955471376, .int 2164926734161, .int 2394867671296, .int
2642656640625, .int 2909194164496, .int 3195402929761, .int 3502227787776, .int 3830635754401, .int 4181616010000, .int 4556179899441, .int 4955360932096, .int 5380214781841], .list [.int 375878121921, .int 439033459216,
.int 509831700625, .int 588865925376, .int 676751377201, .int 774125464336, .int 881647759521, .int 1000000000000, .int 1129886087521, .int 1272032088336, .int 1427186233201, .int 1596118917376, .int 1779622700625, .int
1978512307216, .int 2193624625921, .int 2425818710016, .int 2675975777281, .int 2944999210000, .int 3233814554961, .int 3543369523456, .int 3874633991281, .int 4228599998736, .int 4606281750625, .int 5008715616256, .int
5436960129441, .int 5892095988496, .int 6375226056241, .int 6887475360000], .list [.int 599695360000, .int 688768866241, .int 787414868496, .int 896295799441, .int 1016096256256, .int 1147523000625, .int 1291304958736,
.int 1448193221281, .int 1618961043456, .int 1804403844961, .int 2005339210000, .int 2222606887281, .int 2457068790016, .int 2709608995921, .int 2981133747216, .int 3272571450625, .int 3584872677376, .int 3919010163201,
.int 4275978808336, .int 4656795677521, .int 5062500000000, .int 5494153169521, .int 5952838744336, .int 6439662447201, .int 6955752165376, .int 7502257950625, .int 8080352019216, .int 8691228751921], .list [.int
911125611841, .int 1032386052096, .int 1165365589441, .int 1310796010000, .int 1469431264401, .int 1642047467776, .int 1829442899761, .int 2032438004496, .int 2251875390625, .int 2488619831296, .int 2743558264161, .int
3017599791376, .int 3311675679601, .int 3626739360000, .int 3963766428241, .int 4323754644496, .int 4707723933441, .int 5116716384256, .int 5551796250625, .int 6014049950736, .int 6504586067281, .int 7024535347456, .int
7575050702961, .int 8157307210000, .int 8772502109281, .int 9421854806016, .int 10106606869921, .int 10828022035216], .list [.int 1330506882576, .int 1490902050625, .int 1665379926016, .int 1854741648321, .int
2059810521616, .int 2281432014481, .int 2520473760000, .int 2777825555761, .int 3054399363856, .int 3351129310881, .int 3668971687936, .int 4008904950625, .int 4371929719056, .int 4759068777841, .int 5171367076096, .int
5609891727441, .int 6075732010000, .int 6569999366401, .int 7093827403776, .int 7648371893761, .int 8234810772496, .int 8854344140625, .int 9508194263296, .int 10197605570161, .int 10923844655376, .int 11688200277601,
.int 12491983360000, .int 13336526990241], .list [.int 1880301880081, .int 2087458598416, .int 2311278643521, .int 2552632508416, .int 2812412850625, .int 3091534492176, .int 3390934419601, .int 3711571783936, .int
4054427900721, .int 4420506250000, .int 4810832476321, .int 5226454388736, .int 5668441960801, .int 6137887330576, .int 6635904800625, .int 7163630838016, .int 7722224074321, .int 8312865305616, .int 8936757492481, .int
9595125760000, .int 10289217397761, .int 11020301859856, .int 11789670764881, .int 12598637895936, .int 13448539200625, .int 14340732791056, .int 15276598943841, .int 16257540100096], .list [.int 2585098014976, .int
2847322134801, .int 3129007210000, .int 3431093087041, .int 3754541776896, .int 4100337455041, .int 4469486461456, .int 4863017300625, .int 5281980641536, .int 5727449317681, .int 6200518327056, .int 6702304832161, .int
7233948160000, .int 7796609802081, .int 8391473414416, .int 9019744817521, .int 9682651996416, .int 10381445100625, .int 11117396444176, .int 11891800505601, .int 12705973927936, .int 13561255518721, .int 14459006250000,
.int 15400609258321, .int 16387469844736, .int 17421015474801, .int 18502695778576, .int 19633982550625], .list [.int 3471607400625, .int 3797883801856, .int 4146635796241, .int 4518872583696, .int 4915625528641, .int
5337948160000, .int 5786916171201, .int 6263627420176, .int 6769201929361, .int 7304781885696, .int 7871531640625, .int 8470637710096, .int 9103308774561, .int 9770775678976, .int 10474291432801, .int 11215131210000,
.int 11994592349041, .int 12813994352896, .int 13674678889041, .int 14578009789456, .int 15525373050625, .int 16518176833536, .int 17557851463681, .int 18645849431056, .int 19783645390161, .int 20972736160000, .int
22214640724081, .int 23510900230416], .list [.obj 2, .obj 3, .obj 4, .obj 5, .obj 6, .obj 7, .obj 8, .obj 9, .obj 10, .obj 11, .obj 12, .obj 13, .obj 14, .obj 15, .obj 16], .list [.int 390625, .int 781250, .int 1171875,
.int 1562500, .int 1953125, .int 2343750, .int 2734375], .list [.int 0, .int 177147, .int 354294, .int 531441, .int 708588, .int 885735, .int 1062882, .int 1240029, .int 1417176, .int 1594323, .int 1771470, .int 1948617,
.int 2125764, .int 2302911, .int 2480058, .int 2657205], .inst 1 [(14, .obj 17), (15, .obj 18), (16, .obj 19), (17, .int 96889010407)], .inst 0 [(0, .int 7), (1, .int 4), (2, .int 28), (3, .int 268435455), (4, .bool
false), (5, .bool true), (6, .obj 22), (7, .obj 23), (8, .obj 24), (9, .obj 33), (10, .obj 26), (11, .obj 29), (12, .obj 30), (13, .obj 51)], .list [.int 2113665, .int 4227330, .int 8454660, .int 16909320, .int 33818640,
.int 67637280, .int 135274560], .list [.int 127, .int 16256, .int 2080768, .int 266338304], .list [.obj 35, .obj 37, .obj 39, .obj 41, .obj 43, .obj 45, .obj 47, .obj 49], .list [], .list [.int 33280, .int 82944, .int
166016, .int 332032, .int 664064, .int 1311744, .int 526336, .int 4259844, .int 10616840, .int 21250065, .int 42500130, .int 85000260, .int 167903240, .int 67371024, .int 8389122, .int 16778245, .int 35653770, .int
71307540, .int 142615080, .int 16778320, .int 33556512, .int 65792, .int 131712, .int 279808, .int 559616, .int 1119232, .int 141312, .int 266240], .list [.int 256, .int 640, .int 1280, .int 2560, .int 5120, .int 10240,
.int 4096, .int 32768, .int 81920, .int 163840, .int 327680, .int 655360, .int 1310720, .int 524288, .int 4194304, .int 10485760, .int 20971520, .int 41943040, .int 83886080, .int 167772160, .int 67108864, .int 0, .int
0, .int 0, .int 0, .int 0, .int 0, .int 0], .list [.int 0, .int 0, .int 0, .int 0, .int 0, .int 0, .int 0, .int 2, .int 5, .int 10, .int 20, .int 40, .int 80, .int 32, .int 256, .int 640, .int 1280, .int 2560, .int 5120,
.int 10240, .int 4096, .int 32768, .int 81920, .int 163840, .int 327680, .int 655360, .int 1310720, .int 524288], .list [.obj 27, .obj 28], .list [.tup [.int 3, .int 5, .int 6, .int 4], .tup [.int 3, .int 1, .int 0, .int
2], .tup [.int 24, .int 26, .int 27, .int 25], .tup [.int 24, .int 22, .int 21, .int 23]], .list [], .list [.int 0], .list [.int 386, .int 901, .int 1802, .int 3604, .int 7208, .int 14416, .int 12320, .int 49411, .int
115335, .int 230670, .int 461340, .int 922680, .int 1845360, .int 1577056, .int 6324608, .int 14762880, .int 29525760, .int 59051520, .int 118103040, .int 236206080, .int 201863168, .int 4243456, .int 10600448, .int
21200896, .int 42401792, .int 84803584, .int 169607168, .int 68681728], .list [.int 0], .list [.int 2113664, .int 4227328, .int 8454656, .int 16909312, .int 33818624, .int 67637248, .int 135274496, .int 2113536, .int
4227072, .int 8454144, .int 16908288, .int 33816576, .int 67633152, .int 135266304, .int 2097152, .int 4194304, .int 8388608, .int 16777216, .int 33554432, .int 67108864, .int 134217728, .int 0, .int 0, .int 0, .int 0,
.int 0, .int 0, .int 0], .list [.int 0], .list [.int 126, .int 124, .int 120, .int 112, .int 96, .int 64, .int 0, .int 16128, .int 15872, .int 15360, .int 14336, .int 12288, .int 8192, .int 0, .int 2064384, .int 2031616,
.int 1966080, .int 1835008, .int 1572864, .int 1048576, .int 0, .int 264241152, .int 260046848, .int 251658240, .int 234881024, .int 201326592, .int 134217728, .int 0], .list [.int 0], .list [.int 0, .int 0, .int 0, .int
0, .int 0, .int 0, .int 0, .int 1, .int 2, .int 4, .int 8, .int 16, .int 32, .int 64, .int 129, .int 258, .int 516, .int 1032, .int 2064, .int 4128, .int 8256, .int 16513, .int 33026, .int 66052, .int 132104, .int
264208, .int 528416, .int 1056832], .list [.int 0], .list [.int 0, .int 1, .int 3, .int 7, .int 15, .int 31, .int 63, .int 0, .int 128, .int 384, .int 896, .int 1920, .int 3968, .int 8064, .int 0, .int 16384, .int 49152,
.int 114688, .int 245760, .int 507904, .int 1032192, .int 0, .int 2097152, .int 6291456, .int 14680064, .int 31457280, .int 65011712, .int 132120576], .list [.int 0], .list [.int 16843008, .int 33686016, .int 67372032,
.int 134744064, .int 1052672, .int 8192, .int 0, .int 8421376, .int 16842752, .int 33685504, .int 67371008, .int 134742016, .int 1048576, .int 0, .int 4194304, .int 8388608, .int 16777216, .int 33554432, .int 67108864,
.int 134217728, .int 0, .int 0, .int 0, .int 0, .int 0, .int 0, .int 0, .int 0], .list [.int 0], .list [.int 0, .int 0, .int 0, .int 0, .int 0, .int 0, .int 0, .int 2, .int 4, .int 8, .int 16, .int 32, .int 64, .int 0,
.int 260, .int 520, .int 1040, .int 2080, .int 4160, .int 8192, .int 0, .int 33288, .int 66576, .int 133152, .int 266304, .int 532480, .int 1048576, .int 0], .list [.int 0], .list [.int 0, .int 0, .int 0, .int 0, .int 0,
.int 0, .int 0, .int 0, .int 1, .int 2, .int 4, .int 8, .int 16, .int 32, .int 0, .int 128, .int 257, .int 514, .int 1028, .int 2056, .int 4112, .int 0, .int 16384, .int 32896, .int 65793, .int 131586, .int 263172, .int
526344], .list [.int 0], .list [.int 0, .int 128, .int 16640, .int 2130432, .int 4260864, .int 8521728, .int 17043456, .int 0, .int 16384, .int 2129920, .int 4259840, .int 8519680, .int 17039360, .int 34078720, .int 0,
.int 2097152, .int 4194304, .int 8388608, .int 16777216, .int 33554432, .int 67108864, .int 0, .int 0, .int 0, .int 0, .int 0, .int 0, .int 0], .list [.int 0], .list [.int 2, .int 0, .int 0, .int 3, .int 0, .int 0, .int
1, .int 0, .int 0, .int 0, .int 0, .int 0, .int 0, .int 0, .int 0, .int 0, .int 0, .int 0, .int 0, .int 0, .int 0, .int 8, .int 0, .int 0, .int 12, .int 0, .int 0, .int 4], .inst 2 [(18, .obj 21), (19, .obj 20), (20,
.obj 54), (21, .obj 56), (22, .obj 57), (17, .int 0), (16, .int 0), (15, .int (-1)), (23, .int 0), (3, .int 1), (24, .int 19569544818241), (25, .obj 58)], .list [.int 0], .list [.int 0, .int 0, .int 0, .int 6, .int 0,
.int 0, .int 0, .int 0, .int 0, .int 0, .int 0, .int 0, .int 0, .int 0, .int 0, .int 0, .int 0, .int 0, .int 0, .int 0, .int 0, .int 0, .int 0, .int 0, .int 14, .int 0, .int 0, .int 0], .list [.int 0], .list [.int 0,
.int 0, .int 0, .int 0, .int 0, .int 0, .int 16777224], .list [.int 8, .int 16777216], .list []]
noncomputable def envB : LE := [some (.obj 1), none, some (.obj 17), some (.obj 20), some (.obj 52), none, none, none, none, none, none, none]
theorem pre_ok (a b : AO) : exSs initOf (runF initOf tbl 18) (pre 5 f_law_board.body) (some (.obj 1) :: List.replicate 11 none) [a, b] = some (.next, envB, a :: b :: base) := by kernel_rfl
end Mine
namespace Mine
open PySem
theorem runF_s (d f : Nat) (fn : Fn) (vs : List V) (σ : AH) (h : tbl f = some fn) (hl : vs.length = fn.n) :
    runF initOf tbl (d + 1) f vs σ = (exSs initOf (runF initOf tbl d) fn.body (vs.map some ++ List.replicate fn.m none) σ).bind fun q => (flV q.1).map fun v => (v, q.2.2) := by
  show (tbl f).bind _ = _
  rw [h]; exact if_pos hl
end Mine
namespace Mine
open PySem
theorem and_nn (a b : Nat) : Builtin.bitAnd (a : Int) (b : Int) = ((a &&& b : Nat) : Int) := by
  unfold Builtin.bitAnd
  simp
theorem or_nn (a b : Nat) : Builtin.bitOr (a : Int) (b : Int) = ((a ||| b : Nat) : Int) := by
  unfold Builtin.bitOr Builtin.bitAnd
  have h1 : ¬ (0 ≤ Builtin.bitNot (a : Int)) := by unfold Builtin.bitNot; lia
  have h2 : ¬ (0 ≤ Builtin.bitNot (b : Int)) := by unfold Builtin.bitNot; lia
  have e1 : ∀ x : Int, Builtin.bitNot (Builtin.bitNot x) = x := fun x => by unfold Builtin.bitNot; lia
  simp only [h1, h2, decide_false, e1, Int.toNat_natCast]
noncomputable def bitsN (f : Int → Bool) : List Int → Nat
  | [] => 0
  | x :: r => (if f x then 1 else 0) + 2 * bitsN f r
theorem bits_test (f : Int → Bool) : ∀ (b : List Int) (i : Nat), (bitsN f b).testBit i = ((b[i]?.map f).getD false)
  | [], i => by simp [bitsN]
  | x :: r, 0 => by
    simp only [bitsN, List.getElem?_cons_zero, Option.map_some, Option.getD_some]
    cases f x <;> simp [Nat.testBit_zero] <;> lia
  | x :: r, i + 1 => by
    have ih := bits_test f r i
    simp only [bitsN, List.getElem?_cons_succ, Nat.testBit_succ]
    rw [← ih]
    congr 1
    cases f x <;> simp <;> lia
theorem bits_set {f : Int → Bool} {b : List Int} {s : Nat} {v : Int} (hs : s < b.length) (h0 : (b[s]?.map f) = some false) (hv : f v = true) : bitsN f (b.set s v) = bitsN f b ||| 2 ^ s := by
  apply Nat.eq_of_testBit_eq
  intro i
  rw [Nat.testBit_or, bits_test, bits_test, Nat.testBit_two_pow]
  by_cases hi : s = i
  · subst hi
    rw [List.getElem?_set_self hs, h0]; simp [hv]
  · rw [List.getElem?_set_ne hi]; simp [hi]
theorem bits_same {f : Int → Bool} {b : List Int} {s : Nat} {v : Int} (h0 : (b[s]?.map f) = some false) (hv : f v = false) : bitsN f (b.set s v) = bitsN f b := by
  apply Nat.eq_of_testBit_eq
  intro i
  rw [bits_test, bits_test]
  by_cases hi : s = i
  · subst hi
    by_cases hs : s < b.length
    · rw [List.getElem?_set_self hs, h0]; simp [hv]
    · rw [List.getElem?_eq_none (by rw [List.length_set]; lia), List.getElem?_eq_none (by lia)]
  · rw [List.getElem?_set_ne hi]
noncomputable def isK (k : Int) (x : Int) : Bool := x != 0 && x.emod 8 == k
noncomputable def isS (s : Int) (x : Int) : Bool := x != 0 && x.ediv 8 == s
noncomputable def kindsOf (b : List Int) : List Int := (List.range 7).map fun k => ((bitsN (isK (k : Nat)) b : Nat) : Int)
noncomputable def sidesOf (b : List Int) : List Int := [((bitsN (isS 0) b : Nat) : Int), ((bitsN (isS 1) b : Nat) : Int)]
structure Pz where
  b : List Int
  side : Int
  rights : Int
  half : Int
  full : Int
  key : Int
noncomputable def posFs (p : Nat) (P : Pz) : List (Nat × V) := [(18, .obj 21), (19, .obj 20), (20, .obj (p + 2)), (21, .obj (p + 4)), (22, .obj (p + 5)), (17, .int P.side), (16, .int P.rights), (15, .int (-1)), (23, .int P.half), (3, .int P.full), (24, .int P.key), (25, .obj (p + 6))]
structure PosAt (σ : AH) (p : Nat) (P : Pz) : Prop where
  obj : σ[p]? = some (.inst 2 (posFs p P))
  board : σ[p + 2]? = some (.list (P.b.map .int))
  kinds : σ[p + 4]? = some (.list ((kindsOf P.b).map .int))
  sides : σ[p + 5]? = some (.list ((sidesOf P.b).map .int))
  hist : σ[p + 6]? = some (.list [])
  len : P.b.length = 28
  lo : 52 ≤ p
noncomputable def Geo (σ : AH) : Prop := ∀ i, i < 50 → σ[i + 2]? = base[i]?
theorem PosAt.lt {σ : AH} {p : Nat} {P : Pz} (h : PosAt σ p P) : p + 6 < σ.length := (List.getElem?_eq_some_iff.mp h.hist).1
theorem kind_and : ∀ s k : Fin 8, s.val < 2 → Builtin.bitAnd ((s.val : Int) * 8 + (k.val : Int)) 7 = (k.val : Int) := by decide +kernel
theorem pieces_at {σ : AH} (G : Geo σ) : σ[20]? = base[18]? ∧ σ[17]? = base[15]? := ⟨G 18 (by decide), G 15 (by decide)⟩
theorem get_int {b : List Int} {i : Nat} (h : i < b.length) : (b.map V.int)[i]? = some (.int b[i]) := by simp [h]
end Mine
namespace Mine
open PySem
section
variable (l : LE) (a0 a1 a2 a3 a4 a5 a6 a7 a8 a9 a10 a11 v : Option V)
theorem g0 : (a0 :: l : LE)[0]? = some a0 := rfl
theorem s0 : (a0 :: l : LE).set 0 v = v :: l := rfl
theorem g1 : (a0 :: a1 :: l : LE)[1]? = some a1 := rfl
theorem s1 : (a0 :: a1 :: l : LE).set 1 v = a0 :: v :: l := rfl
theorem g2 : (a0 :: a1 :: a2 :: l : LE)[2]? = some a2 := rfl
theorem s2 : (a0 :: a1 :: a2 :: l : LE).set 2 v = a0 :: a1 :: v :: l := rfl
theorem g3 : (a0 :: a1 :: a2 :: a3 :: l : LE)[3]? = some a3 := rfl
theorem s3 : (a0 :: a1 :: a2 :: a3 :: l : LE).set 3 v = a0 :: a1 :: a2 :: v :: l := rfl
theorem g4 : (a0 :: a1 :: a2 :: a3 :: a4 :: l : LE)[4]? = some a4 := rfl
theorem s4 : (a0 :: a1 :: a2 :: a3 :: a4 :: l : LE).set 4 v = a0 :: a1 :: a2 :: a3 :: v :: l := rfl
theorem g5 : (a0 :: a1 :: a2 :: a3 :: a4 :: a5 :: l : LE)[5]? = some a5 := rfl
theorem s5 : (a0 :: a1 :: a2 :: a3 :: a4 :: a5 :: l : LE).set 5 v = a0 :: a1 :: a2 :: a3 :: a4 :: v :: l := rfl
theorem g6 : (a0 :: a1 :: a2 :: a3 :: a4 :: a5 :: a6 :: l : LE)[6]? = some a6 := rfl
theorem s6 : (a0 :: a1 :: a2 :: a3 :: a4 :: a5 :: a6 :: l : LE).set 6 v = a0 :: a1 :: a2 :: a3 :: a4 :: a5 :: v :: l := rfl
theorem g7 : (a0 :: a1 :: a2 :: a3 :: a4 :: a5 :: a6 :: a7 :: l : LE)[7]? = some a7 := rfl
theorem s7 : (a0 :: a1 :: a2 :: a3 :: a4 :: a5 :: a6 :: a7 :: l : LE).set 7 v = a0 :: a1 :: a2 :: a3 :: a4 :: a5 :: a6 :: v :: l := rfl
theorem g8 : (a0 :: a1 :: a2 :: a3 :: a4 :: a5 :: a6 :: a7 :: a8 :: l : LE)[8]? = some a8 := rfl
theorem s8 : (a0 :: a1 :: a2 :: a3 :: a4 :: a5 :: a6 :: a7 :: a8 :: l : LE).set 8 v = a0 :: a1 :: a2 :: a3 :: a4 :: a5 :: a6 :: a7 :: v :: l := rfl
theorem g9 : (a0 :: a1 :: a2 :: a3 :: a4 :: a5 :: a6 :: a7 :: a8 :: a9 :: l : LE)[9]? = some a9 := rfl
theorem s9 : (a0 :: a1 :: a2 :: a3 :: a4 :: a5 :: a6 :: a7 :: a8 :: a9 :: l : LE).set 9 v = a0 :: a1 :: a2 :: a3 :: a4 :: a5 :: a6 :: a7 :: a8 :: v :: l := rfl
theorem g10 : (a0 :: a1 :: a2 :: a3 :: a4 :: a5 :: a6 :: a7 :: a8 :: a9 :: a10 :: l : LE)[10]? = some a10 := rfl
theorem s10 : (a0 :: a1 :: a2 :: a3 :: a4 :: a5 :: a6 :: a7 :: a8 :: a9 :: a10 :: l : LE).set 10 v = a0 :: a1 :: a2 :: a3 :: a4 :: a5 :: a6 :: a7 :: a8 :: a9 :: v :: l := rfl
theorem g11 : (a0 :: a1 :: a2 :: a3 :: a4 :: a5 :: a6 :: a7 :: a8 :: a9 :: a10 :: a11 :: l : LE)[11]? = some a11 := rfl
theorem s11 : (a0 :: a1 :: a2 :: a3 :: a4 :: a5 :: a6 :: a7 :: a8 :: a9 :: a10 :: a11 :: l : LE).set 11 v = a0 :: a1 :: a2 :: a3 :: a4 :: a5 :: a6 :: a7 :: a8 :: a9 :: a10 :: v :: l := rfl
end
theorem run_next {d f : Nat} {fn : Fn} {vs : List V} {σ S : AH} {env' : LE} (h : tbl f = some fn) (hl : vs.length = fn.n)
    (e : exSs initOf (runF initOf tbl d) fn.body (vs.map some ++ List.replicate fn.m none) σ = some (.next, env', S)) : runF initOf tbl (d + 1) f vs σ = some (.none, S) := by
  rw [runF_s d f fn vs σ h hl, e]; rfl
theorem run_ret {d f : Nat} {fn : Fn} {vs : List V} {σ S : AH} {env' : LE} {v : V} (h : tbl f = some fn) (hl : vs.length = fn.n)
    (e : exSs initOf (runF initOf tbl d) fn.body (vs.map some ++ List.replicate fn.m none) σ = some (.ret v, env', S)) : runF initOf tbl (d + 1) f vs σ = some (v, S) := by
  rw [runF_s d f fn vs σ h hl, e]; rfl
end Mine
namespace Mine
open PySem
theorem nr {α : Type} {a b : α} (h : a = b) : a = b := h
noncomputable def bd (F : Nat → List V → AH → Option (V × AH)) (body : ISs) : LE → AH → Option (Fl × LE × AH) := fun env σ => exSs initOf F body env σ
noncomputable def stK (k : Nat) : V → LE → Option LE := fun v env => some (env.set k (some v))
noncomputable def stT (ks : List Nat) : V → LE → Option LE := fun v env => match v with | .tup vs => bindAll ks vs env | _ => Option.none
noncomputable def tst (F : Nat → List V → AH → Option (V × AH)) (t : IT) : LE → AH → Option (Bool × AH) := fun env σ => evT initOf F t env σ
section
variable (F : Nat → List V → AH → Option (V × AH)) (env : LE) (σ : AH)
theorem x_asg (k : Nat) (e : IE) : exS initOf F (.asg k e) env σ = (evE initOf F e env σ).bind fun p => some (.next, env.set k (some p.1), p.2) := nr rfl
theorem x_asgA (o : IE) (a : Nat) (e : IE) : exS initOf F (.asgA o a e) env σ = (evE initOf F e env σ).bind fun p => (evE initOf F o env p.2).bind fun q => (setAttrV q.1 a p.1 q.2).bind fun σ => some (.next, env, σ) := nr rfl
theorem x_asgS (o i e : IE) : exS initOf F (.asgS o i e) env σ = (evE initOf F e env σ).bind fun p => (evE initOf F o env p.2).bind fun q => (evE initOf F i env q.2).bind fun r => (setSubV q.1 r.1 p.1 r.2).bind fun σ => some (.next, env, σ) := nr rfl
theorem x_unp (ks : List Nat) (e : IE) : exS initOf F (.unp ks e) env σ = (evE initOf F e env σ).bind fun p => (unpV p.1 p.2).bind fun vs => (bindAll ks vs env).bind fun env => some (.next, env, p.2) := nr rfl
theorem x_unpA (ts : List (Nat × Nat)) (e : IE) : exS initOf F (.unpA ts e) env σ = (evE initOf F e env σ).bind fun p => (unpV p.1 p.2).bind fun vs => (setAll ts vs env p.2).bind fun σ => some (.next, env, σ) := nr rfl
theorem x_aug (k : Nat) (op : Operator) (e : IE) : exS initOf F (.aug k op e) env σ = (env[k]?.join).bind fun x => (evE initOf F e env σ).bind fun q => (augV op x q.1 q.2).bind fun r => some (.next, env.set k (some r.1), r.2) := nr rfl
theorem x_ife (t : IT) (a b : ISs) : exS initOf F (.ife t a b) env σ = (evT initOf F t env σ).bind fun p => match p.1 with
    | true => exSs initOf F a env p.2
    | false => exSs initOf F b env p.2 := nr rfl
theorem x_for (k : Nat) (e : IE) (body : ISs) : exS initOf F (.for_ k e body) env σ = (evE initOf F e env σ).bind fun p => forV (stK k) (bd F body) p.1 env p.2 := nr rfl
theorem x_forT (ks : List Nat) (e : IE) (body : ISs) : exS initOf F (.forT ks e body) env σ = (evE initOf F e env σ).bind fun p => forV (stT ks) (bd F body) p.1 env p.2 := nr rfl
theorem x_while (n : Nat) (t : IT) (body : ISs) : exS initOf F (.while_ n t body) env σ = whileF (tst F t) (bd F body) n env σ := nr rfl
theorem x_ret (e : IE) : exS initOf F (.ret e) env σ = (evE initOf F e env σ).bind fun p => some (.ret p.1, env, p.2) := nr rfl
theorem x_exp (e : IE) : exS initOf F (.exp e) env σ = (evE initOf F e env σ).bind fun p => some (.next, env, p.2) := nr rfl
theorem x_cont : exS initOf F .cont env σ = some (.cont, env, σ) := nr rfl
end
end Mine
namespace Mine
open PySem
noncomputable abbrev FT := Nat → List V → AH → Option (V × AH)
noncomputable abbrev RV := Option (V × AH)
section
variable (F : FT) (env : LE) (σ : AH)
noncomputable def k_seq (r : ISs) (x : Option (Fl × LE × AH)) : Option (Fl × LE × AH) := x.bind fun q => match q.1 with
  | .next => exSs initOf F r q.2.1 q.2.2
  | f => some (f, q.2.1, q.2.2)
theorem y_nil : exSs initOf F .nil env σ = some (.next, env, σ) := nr rfl
theorem y_cons (s : IS) (r : ISs) : exSs initOf F (.cons s r) env σ = k_seq F r (exS initOf F s env σ) := nr rfl
theorem k_seq_n (r : ISs) : k_seq F r (some (.next, env, σ)) = exSs initOf F r env σ := nr rfl
theorem k_seq_r (r : ISs) (v : V) : k_seq F r (some (.ret v, env, σ)) = some (.ret v, env, σ) := nr rfl
theorem k_seq_c (r : ISs) : k_seq F r (some (.cont, env, σ)) = some (.cont, env, σ) := nr rfl
/- asg -/
noncomputable def k_asg (k : Nat) (x : RV) : Option (Fl × LE × AH) := x.bind fun p => some (.next, env.set k (some p.1), p.2)
theorem y_asg (k : Nat) (e : IE) : exS initOf F (.asg k e) env σ = k_asg env k (evE initOf F e env σ) := nr rfl
theorem k_asg_s (k : Nat) (v : V) : k_asg env k (some (v, σ)) = some (.next, env.set k (some v), σ) := nr rfl
noncomputable def k_end (x : Option AH) : Option (Fl × LE × AH) := x.bind fun σ => some (.next, env, σ)
theorem k_end_s : k_end env (some σ) = some (.next, env, σ) := nr rfl
/- asgA -/
noncomputable def k_asgA (o : IE) (a : Nat) (x : RV) : Option (Fl × LE × AH) := x.bind fun p => (evE initOf F o env p.2).bind fun q => (setAttrV q.1 a p.1 q.2).bind fun σ => some (.next, env, σ)
noncomputable def k_asgA2 (a : Nat) (v : V) (x : RV) : Option (Fl × LE × AH) := x.bind fun q => (setAttrV q.1 a v q.2).bind fun σ => some (.next, env, σ)
theorem y_asgA (o : IE) (a : Nat) (e : IE) : exS initOf F (.asgA o a e) env σ = k_asgA F env o a (evE initOf F e env σ) := nr rfl
theorem k_asgA_s (o : IE) (a : Nat) (v : V) : k_asgA F env o a (some (v, σ)) = k_asgA2 env a v (evE initOf F o env σ) := nr rfl
theorem k_asgA2_s (a : Nat) (v w : V) : k_asgA2 env a v (some (w, σ)) = k_end env (setAttrV w a v σ) := nr rfl
/- unp -/
noncomputable def k_unp (ks : List Nat) (x : RV) : Option (Fl × LE × AH) := x.bind fun p => (unpV p.1 p.2).bind fun vs => (bindAll ks vs env).bind fun env => some (.next, env, p.2)
noncomputable def k_unp2 (ks : List Nat) (x : Option (List V)) : Option (Fl × LE × AH) := x.bind fun vs => (bindAll ks vs env).bind fun env => some (.next, env, σ)
noncomputable def k_unp3 (x : Option LE) : Option (Fl × LE × AH) := x.bind fun env => some (.next, env, σ)
theorem y_unp (ks : List Nat) (e : IE) : exS initOf F (.unp ks e) env σ = k_unp env ks (evE initOf F e env σ) := nr rfl
theorem k_unp_s (ks : List Nat) (v : V) : k_unp env ks (some (v, σ)) = k_unp2 env σ ks (unpV v σ) := nr rfl
theorem k_unp2_s (ks : List Nat) (vs : List V) : k_unp2 env σ ks (some vs) = k_unp3 σ (bindAll ks vs env) := nr rfl
theorem k_unp3_s : k_unp3 σ (some env) = some (.next, env, σ) := nr rfl
/- unpA -/
noncomputable def k_unpA (ts : List (Nat × Nat)) (x : RV) : Option (Fl × LE × AH) := x.bind fun p => (unpV p.1 p.2).bind fun vs => (setAll ts vs env p.2).bind fun σ => some (.next, env, σ)
noncomputable def k_unpA2 (ts : List (Nat × Nat)) (x : Option (List V)) : Option (Fl × LE × AH) := x.bind fun vs => (setAll ts vs env σ).bind fun σ => some (.next, env, σ)
theorem y_unpA (ts : List (Nat × Nat)) (e : IE) : exS initOf F (.unpA ts e) env σ = k_unpA env ts (evE initOf F e env σ) := nr rfl
theorem k_unpA_s (ts : List (Nat × Nat)) (v : V) : k_unpA env ts (some (v, σ)) = k_unpA2 env σ ts (unpV v σ) := nr rfl
theorem k_unpA2_s (ts : List (Nat × Nat)) (vs : List V) : k_unpA2 env σ ts (some vs) = k_end env (setAll ts vs env σ) := nr rfl
/- aug -/
noncomputable def k_aug (k : Nat) (op : Operator) (e : IE) (x : Option V) : Option (Fl × LE × AH) := x.bind fun x => (evE initOf F e env σ).bind fun q => (augV op x q.1 q.2).bind fun r => some (.next, env.set k (some r.1), r.2)
noncomputable def k_aug2 (k : Nat) (op : Operator) (x : V) (y : RV) : Option (Fl × LE × AH) := y.bind fun q => (augV op x q.1 q.2).bind fun r => some (.next, env.set k (some r.1), r.2)
theorem y_aug (k : Nat) (op : Operator) (e : IE) : exS initOf F (.aug k op e) env σ = k_aug F env σ k op e (env[k]?.join) := nr rfl
theorem k_aug_s (k : Nat) (op : Operator) (e : IE) (x : V) : k_aug F env σ k op e (some x) = k_aug2 env k op x (evE initOf F e env σ) := nr rfl
theorem k_aug2_s (k : Nat) (op : Operator) (x y : V) : k_aug2 env k op x (some (y, σ)) = k_asg env k (augV op x y σ) := nr rfl
/- augA -/
noncomputable def k_augA (a : Nat) (op : Operator) (e : IE) (y : RV) : Option (Fl × LE × AH) := y.bind fun p => (attrV p.1 a p.2).bind fun x => (evE initOf F e env p.2).bind fun q => (augV op x q.1 q.2).bind fun r =>
      (setAttrV p.1 a r.1 r.2).bind fun σ => some (.next, env, σ)
noncomputable def k_augA2 (o : V) (a : Nat) (op : Operator) (e : IE) (y : Option V) : Option (Fl × LE × AH) := y.bind fun x => (evE initOf F e env σ).bind fun q => (augV op x q.1 q.2).bind fun r =>
      (setAttrV o a r.1 r.2).bind fun σ => some (.next, env, σ)
noncomputable def k_augA3 (o : V) (a : Nat) (op : Operator) (x : V) (y : RV) : Option (Fl × LE × AH) := y.bind fun q => (augV op x q.1 q.2).bind fun r => (setAttrV o a r.1 r.2).bind fun σ => some (.next, env, σ)
noncomputable def k_augA4 (o : V) (a : Nat) (y : RV) : Option (Fl × LE × AH) := y.bind fun r => (setAttrV o a r.1 r.2).bind fun σ => some (.next, env, σ)
theorem y_augA (o : IE) (a : Nat) (op : Operator) (e : IE) : exS initOf F (.augA o a op e) env σ = k_augA F env a op e (evE initOf F o env σ) := nr rfl
theorem k_augA_s (o : V) (a : Nat) (op : Operator) (e : IE) : k_augA F env a op e (some (o, σ)) = k_augA2 F env σ o a op e (attrV o a σ) := nr rfl
theorem k_augA2_s (o : V) (a : Nat) (op : Operator) (e : IE) (x : V) : k_augA2 F env σ o a op e (some x) = k_augA3 env o a op x (evE initOf F e env σ) := nr rfl
theorem k_augA3_s (o : V) (a : Nat) (op : Operator) (x y : V) : k_augA3 env o a op x (some (y, σ)) = k_augA4 env o a (augV op x y σ) := nr rfl
theorem k_augA4_s (o : V) (a : Nat) (v : V) : k_augA4 env o a (some (v, σ)) = k_end env (setAttrV o a v σ) := nr rfl
/- if -/
noncomputable def k_ife (a b : ISs) (x : Option (Bool × AH)) : Option (Fl × LE × AH) := x.bind fun p => match p.1 with
    | true => exSs initOf F a env p.2
    | false => exSs initOf F b env p.2
theorem y_ife (t : IT) (a b : ISs) : exS initOf F (.ife t a b) env σ = k_ife F env a b (evT initOf F t env σ) := nr rfl
theorem k_ife_t (a b : ISs) : k_ife F env a b (some (true, σ)) = exSs initOf F a env σ := nr rfl
theorem k_ife_f (a b : ISs) : k_ife F env a b (some (false, σ)) = exSs initOf F b env σ := nr rfl
/- loops -/
noncomputable def k_for (st : V → LE → Option LE) (body : ISs) (x : RV) : Option (Fl × LE × AH) := x.bind fun p => forV st (bd F body) p.1 env p.2
theorem y_for (k : Nat) (e : IE) (body : ISs) : exS initOf F (.for_ k e body) env σ = k_for F env (stK k) body (evE initOf F e env σ) := nr rfl
theorem y_forT (ks : List Nat) (e : IE) (body : ISs) : exS initOf F (.forT ks e body) env σ = k_for F env (stT ks) body (evE initOf F e env σ) := nr rfl
theorem k_for_s (st : V → LE → Option LE) (body : ISs) (v : V) : k_for F env st body (some (v, σ)) = forV st (bd F body) v env σ := nr rfl
/- ret, exp, cont, try -/
noncomputable def k_ret (x : RV) : Option (Fl × LE × AH) := x.bind fun p => some (.ret p.1, env, p.2)
theorem y_ret (e : IE) : exS initOf F (.ret e) env σ = k_ret env (evE initOf F e env σ) := nr rfl
theorem k_ret_s (v : V) : k_ret env (some (v, σ)) = some (.ret v, env, σ) := nr rfl
noncomputable def k_exp (x : RV) : Option (Fl × LE × AH) := x.bind fun p => some (.next, env, p.2)
theorem y_exp (e : IE) : exS initOf F (.exp e) env σ = k_exp env (evE initOf F e env σ) := nr rfl
theorem k_exp_s (v : V) : k_exp env (some (v, σ)) = some (.next, env, σ) := nr rfl
theorem y_cont : exS initOf F .cont env σ = some (.cont, env, σ) := nr rfl
theorem y_try (b : ISs) : exS initOf F (.try_ b) env σ = exSs initOf F b env σ := nr rfl
noncomputable def k_var (x : Option V) : RV := x.map fun v => (v, σ)
theorem k_var_s (v : V) : k_var σ (some v) = some (v, σ) := nr rfl
theorem z_cst (v : V) : evE initOf F (.cst v) env σ = some (v, σ) := nr rfl
theorem z_var (k : Nat) : evE initOf F (.var k) env σ = k_var σ (env[k]?.join) := nr rfl
noncomputable def tabG (xs : List Int) (k : Int) : RV := if 0 ≤ k ∧ k < 100000 then (xs[k.toNat]?).map fun z => (.int z, σ) else Option.none
noncomputable def k_tab (xs : List Int) (x : RV) : RV := x.bind fun p => match p.1 with
    | .int k => tabG p.2 xs k
    | _ => Option.none
theorem z_tab (xs : List Int) (i : IE) : evE initOf F (.tab xs i) env σ = k_tab xs (evE initOf F i env σ) := nr rfl
theorem k_tab_i (xs : List Int) (k : Int) : k_tab xs (some (.int k, σ)) = tabG σ xs k := nr rfl
theorem k_tab_s {xs : List Int} {k : Nat} {z : Int} (h : k < 1000 ∧ xs[k]? = some z) : k_tab xs (some (.int (k : Int), σ)) = some (.int z, σ) := by
  obtain ⟨h1, h2⟩ := h
  have : (0 ≤ (k : Int) ∧ (k : Int) < 100000) := by lia
  rw [k_tab_i]
  unfold tabG
  rw [if_pos this, Int.toNat_natCast, h2]; rfl
noncomputable def k_bin (op : Operator) (b : IE) (x : RV) : RV := x.bind fun p => (evE initOf F b env p.2).bind fun q => binV op p.1 q.1 q.2
noncomputable def k_bin2 (op : Operator) (v : V) (x : RV) : RV := x.bind fun q => binV op v q.1 q.2
theorem z_bin (op : Operator) (a b : IE) : evE initOf F (.bin op a b) env σ = k_bin F env op b (evE initOf F a env σ) := nr rfl
theorem k_bin_s (op : Operator) (b : IE) (v : V) : k_bin F env op b (some (v, σ)) = k_bin2 op v (evE initOf F b env σ) := nr rfl
theorem k_bin2_s (op : Operator) (v w : V) : k_bin2 op v (some (w, σ)) = binV op v w σ := nr rfl
noncomputable def k_neg (x : RV) : RV := x.bind fun p => match p.1 with
    | .int i => some (.int (-i), p.2)
    | _ => Option.none
theorem z_neg (a : IE) : evE initOf F (.neg a) env σ = k_neg (evE initOf F a env σ) := nr rfl
theorem k_neg_s (i : Int) : k_neg (some (.int i, σ)) = some (.int (-i), σ) := nr rfl
noncomputable def k_inv (x : RV) : RV := x.bind fun p => match p.1 with
    | .int i => some (.int (Builtin.bitNot i), p.2)
    | _ => Option.none
theorem z_inv (a : IE) : evE initOf F (.inv a) env σ = k_inv (evE initOf F a env σ) := nr rfl
theorem k_inv_s (i : Int) : k_inv (some (.int i, σ)) = some (.int (Builtin.bitNot i), σ) := nr rfl
noncomputable def k_not (x : RV) : RV := x.bind fun p => (truthV p.1).map fun b => (.bool (!b), p.2)
theorem z_not (a : IE) : evE initOf F (.not a) env σ = k_not (evE initOf F a env σ) := nr rfl
theorem k_not_b (b : Bool) : k_not (some (.bool b, σ)) = some (.bool (!b), σ) := nr rfl
noncomputable def k_ifE (a b : IE) (x : Option (Bool × AH)) : RV := x.bind fun p => match p.1 with
    | true => evE initOf F a env p.2
    | false => evE initOf F b env p.2
theorem z_ife (t : IT) (a b : IE) : evE initOf F (.ife t a b) env σ = k_ifE F env a b (evT initOf F t env σ) := nr rfl
theorem k_ifE_t (a b : IE) : k_ifE F env a b (some (true, σ)) = evE initOf F a env σ := nr rfl
theorem k_ifE_f (a b : IE) : k_ifE F env a b (some (false, σ)) = evE initOf F b env σ := nr rfl
noncomputable def k_bool (x : Option (Bool × AH)) : RV := x.map fun q => (.bool q.1, q.2)
theorem k_bool_s (b : Bool) : k_bool (some (b, σ)) = some (.bool b, σ) := nr rfl
noncomputable def k_cmp (cs : ICs) (x : RV) : RV := x.bind fun p => (evC initOf F cs p.1 env p.2).map fun q => (.bool q.1, q.2)
theorem z_cmp (a : IE) (cs : ICs) : evE initOf F (.cmp a cs) env σ = k_cmp F env cs (evE initOf F a env σ) := nr rfl
theorem k_cmp_s (cs : ICs) (v : V) : k_cmp F env cs (some (v, σ)) = k_bool (evC initOf F cs v env σ) := nr rfl
noncomputable def k_bop (and : Bool) (b : IE) (x : RV) : RV := x.bind fun p => (truthV p.1).bind fun c => match c == and with
    | true => evE initOf F b env p.2
    | false => some p
theorem z_bop (and : Bool) (a b : IE) : evE initOf F (.bop and a b) env σ = k_bop F env and b (evE initOf F a env σ) := nr rfl
theorem k_bop_tt (b : IE) : k_bop F env true b (some (.bool true, σ)) = evE initOf F b env σ := nr rfl
theorem k_bop_tf (b : IE) : k_bop F env true b (some (.bool false, σ)) = some (.bool false, σ) := nr rfl
theorem k_bop_ft (b : IE) : k_bop F env false b (some (.bool true, σ)) = some (.bool true, σ) := nr rfl
theorem k_bop_ff (b : IE) : k_bop F env false b (some (.bool false, σ)) = evE initOf F b env σ := nr rfl
noncomputable def k_attr (a : Nat) (x : RV) : RV := x.bind fun p => (attrV p.1 a p.2).map fun v => (v, p.2)
theorem z_attr (e : IE) (a : Nat) : evE initOf F (.attr e a) env σ = k_attr a (evE initOf F e env σ) := nr rfl
theorem k_attr_s (a : Nat) (v : V) : k_attr a (some (v, σ)) = k_var σ (attrV v a σ) := nr rfl
noncomputable def k_sub (i : IE) (x : RV) : RV := x.bind fun p => (evE initOf F i env p.2).bind fun q => (subV p.1 q.1 q.2).map fun v => (v, q.2)
noncomputable def k_sub2 (o : V) (x : RV) : RV := x.bind fun q => (subV o q.1 q.2).map fun v => (v, q.2)
theorem z_sub (e i : IE) : evE initOf F (.sub e i) env σ = k_sub F env i (evE initOf F e env σ) := nr rfl
theorem k_sub_s (i : IE) (v : V) : k_sub F env i (some (v, σ)) = k_sub2 v (evE initOf F i env σ) := nr rfl
theorem k_sub2_s (o v : V) : k_sub2 o (some (v, σ)) = k_var σ (subV o v σ) := nr rfl
noncomputable def k_slice (lo hi : IE) (x : RV) : RV := x.bind fun p => (evE initOf F lo env p.2).bind fun q => (evE initOf F hi env q.2).bind fun r => sliceV p.1 q.1 r.1 r.2
noncomputable def k_slice2 (o : V) (hi : IE) (x : RV) : RV := x.bind fun q => (evE initOf F hi env q.2).bind fun r => sliceV o q.1 r.1 r.2
noncomputable def k_slice3 (o lo : V) (x : RV) : RV := x.bind fun r => sliceV o lo r.1 r.2
theorem z_slice (e lo hi : IE) : evE initOf F (.slice e lo hi) env σ = k_slice F env lo hi (evE initOf F e env σ) := nr rfl
theorem k_slice_s (lo hi : IE) (v : V) : k_slice F env lo hi (some (v, σ)) = k_slice2 F env v hi (evE initOf F lo env σ) := nr rfl
theorem k_slice2_s (o : V) (hi : IE) (v : V) : k_slice2 F env o hi (some (v, σ)) = k_slice3 o v (evE initOf F hi env σ) := nr rfl
theorem k_slice3_s (o lo v : V) : k_slice3 o lo (some (v, σ)) = sliceV o lo v σ := nr rfl
noncomputable def k_rev (x : RV) : RV := x.bind fun p => revV p.1 p.2
theorem z_rev (e : IE) : evE initOf F (.rev e) env σ = k_rev (evE initOf F e env σ) := nr rfl
theorem k_rev_s (v : V) : k_rev (some (v, σ)) = revV v σ := nr rfl
noncomputable def k_list (x : Option (List V × AH)) : RV := x.bind fun p => if p.1.length ≤ 1000 then some (.obj p.2.length, p.2 ++ [.list p.1]) else Option.none
noncomputable def k_tup (x : Option (List V × AH)) : RV := x.bind fun p => if p.1.length ≤ 1000 then some (.tup p.1, p.2) else Option.none
theorem z_list (es : IEs) : evE initOf F (.list es) env σ = k_list (evEs initOf F es env σ) := nr rfl
theorem z_tup (es : IEs) : evE initOf F (.tup es) env σ = k_tup (evEs initOf F es env σ) := nr rfl
theorem k_list0 : k_list (some ([], σ)) = some (.obj σ.length, σ ++ [.list []]) := nr rfl
theorem k_list1 (a : V) : k_list (some ([a], σ)) = some (.obj σ.length, σ ++ [.list [a]]) := nr rfl
theorem k_list6 (a b c d e f : V) : k_list (some ([a, b, c, d, e, f], σ)) = some (.obj σ.length, σ ++ [.list [a, b, c, d, e, f]]) := nr rfl
theorem k_tup2 (a b : V) : k_tup (some ([a, b], σ)) = some (.tup [a, b], σ) := nr rfl
theorem k_tup3 (a b c : V) : k_tup (some ([a, b, c], σ)) = some (.tup [a, b, c], σ) := nr rfl
theorem k_tup4 (a b c d : V) : k_tup (some ([a, b, c, d], σ)) = some (.tup [a, b, c, d], σ) := nr rfl
noncomputable def k_call (f : Nat) (x : Option (List V × AH)) : RV := x.bind fun p => F f p.1 p.2
theorem z_call (f : Nat) (es : IEs) : evE initOf F (.call f es) env σ = k_call F f (evEs initOf F es env σ) := nr rfl
theorem k_call_s (f : Nat) (vs : List V) : k_call F f (some (vs, σ)) = F f vs σ := nr rfl
noncomputable def k_new (c : Nat) (x : Option (List V × AH)) : RV := x.bind fun p => (F (initOf c) (.obj p.2.length :: p.1) (p.2 ++ [.inst c []])).bind fun q => match q.1 with
    | .none => some (.obj p.2.length, q.2)
    | _ => Option.none
noncomputable def k_new2 (n : Nat) (x : RV) : RV := x.bind fun q => match q.1 with
    | .none => some (.obj n, q.2)
    | _ => Option.none
theorem z_new (c : Nat) (es : IEs) : evE initOf F (.new c es) env σ = k_new F c (evEs initOf F es env σ) := nr rfl
theorem k_new_s (c : Nat) (vs : List V) : k_new F c (some (vs, σ)) = k_new2 σ.length (F (initOf c) (.obj σ.length :: vs) (σ ++ [.inst c []])) := nr rfl
theorem k_new2_s (n : Nat) : k_new2 n (some (.none, σ)) = some (.obj n, σ) := nr rfl
noncomputable def k_bi (b : BI) (x : Option (List V × AH)) : RV := x.bind fun p => biV b p.1 p.2
theorem z_bi (b : BI) (es : IEs) : evE initOf F (.bi b es) env σ = k_bi b (evEs initOf F es env σ) := nr rfl
theorem k_bi_s (b : BI) (vs : List V) : k_bi b (some (vs, σ)) = biV b vs σ := nr rfl
noncomputable def k_meth (m : ME) (es : IEs) (x : RV) : RV := x.bind fun p => match lstOk p.1 p.2 with
    | true => (evEs initOf F es env p.2).bind fun q => methV m p.1 q.1 q.2
    | false => Option.none
noncomputable def k_meth2 (m : ME) (es : IEs) (o : V) (x : Bool) : RV := match x with
    | true => (evEs initOf F es env σ).bind fun q => methV m o q.1 q.2
    | false => Option.none
noncomputable def k_meth3 (m : ME) (o : V) (x : Option (List V × AH)) : RV := x.bind fun q => methV m o q.1 q.2
theorem z_meth (m : ME) (e : IE) (es : IEs) : evE initOf F (.meth m e es) env σ = k_meth F env m es (evE initOf F e env σ) := nr rfl
theorem k_meth_s (m : ME) (es : IEs) (o : V) : k_meth F env m es (some (o, σ)) = k_meth2 F env σ m es o (lstOk o σ) := nr rfl
theorem k_meth2_s (m : ME) (es : IEs) (o : V) : k_meth2 F env σ m es o true = k_meth3 m o (evEs initOf F es env σ) := nr rfl
theorem k_meth3_s (m : ME) (o : V) (vs : List V) : k_meth3 m o (some (vs, σ)) = methV m o vs σ := nr rfl
theorem lst_str (x : List Nat) : lstOk (.str x) σ = true := nr rfl
noncomputable def k_comp (k : Nat) (ifs : ITs) (elt : IE) (x : RV) : RV := x.bind fun p => (lenIt p.1 p.2).bind fun n =>
      if n ≤ lineL then (compN k (fun env σ => evI initOf F ifs env σ) (fun env σ => evE initOf F elt env σ) p.1 (n + 1) 0 env p.2).bind fun q =>
        if q.1.length ≤ lineL then some (.obj q.2.length, q.2 ++ [.list q.1]) else Option.none else Option.none
theorem z_comp (k : Nat) (src : IE) (ifs : ITs) (elt : IE) : evE initOf F (.comp k src ifs elt) env σ = k_comp F env k ifs elt (evE initOf F src env σ) := nr rfl
/- lists of expressions -/
noncomputable def k_cons (es : IEs) (x : RV) : Option (List V × AH) := x.bind fun p => (evEs initOf F es env p.2).bind fun q => some (p.1 :: q.1, q.2)
noncomputable def k_cons2 (v : V) (x : Option (List V × AH)) : Option (List V × AH) := x.bind fun q => some (v :: q.1, q.2)
theorem z_nil : evEs initOf F .nil env σ = some ([], σ) := nr rfl
theorem z_cons (e : IE) (es : IEs) : evEs initOf F (.cons e es) env σ = k_cons F env es (evE initOf F e env σ) := nr rfl
theorem k_cons_s (es : IEs) (v : V) : k_cons F env es (some (v, σ)) = k_cons2 v (evEs initOf F es env σ) := nr rfl
theorem k_cons2_s (v : V) (vs : List V) : k_cons2 v (some (vs, σ)) = some (v :: vs, σ) := nr rfl
/- asgS, augS, augD -/
noncomputable def k_asgS (o i : IE) (x : RV) : Option (Fl × LE × AH) := x.bind fun p => (evE initOf F o env p.2).bind fun q => (evE initOf F i env q.2).bind fun r => (setSubV q.1 r.1 p.1 r.2).bind fun σ => some (.next, env, σ)
noncomputable def k_asgS2 (v : V) (i : IE) (x : RV) : Option (Fl × LE × AH) := x.bind fun q => (evE initOf F i env q.2).bind fun r => (setSubV q.1 r.1 v r.2).bind fun σ => some (.next, env, σ)
noncomputable def k_asgS3 (v o : V) (x : RV) : Option (Fl × LE × AH) := x.bind fun r => (setSubV o r.1 v r.2).bind fun σ => some (.next, env, σ)
theorem y_asgS (o i e : IE) : exS initOf F (.asgS o i e) env σ = k_asgS F env o i (evE initOf F e env σ) := nr rfl
theorem k_asgS_s (o i : IE) (v : V) : k_asgS F env o i (some (v, σ)) = k_asgS2 F env v i (evE initOf F o env σ) := nr rfl
theorem k_asgS2_s (v o : V) (i : IE) : k_asgS2 F env v i (some (o, σ)) = k_asgS3 env v o (evE initOf F i env σ) := nr rfl
theorem k_asgS3_s (v o i : V) : k_asgS3 env v o (some (i, σ)) = k_end env (setSubV o i v σ) := nr rfl
noncomputable def k_augS (i : IE) (op : Operator) (e : IE) (x : RV) : Option (Fl × LE × AH) := x.bind fun p => (evE initOf F i env p.2).bind fun q => (subV p.1 q.1 q.2).bind fun x => (evE initOf F e env q.2).bind fun r => (augV op x r.1 r.2).bind fun y =>
      (setSubV p.1 q.1 y.1 y.2).bind fun σ => some (.next, env, σ)
noncomputable def k_augS2 (o : V) (op : Operator) (e : IE) (x : RV) : Option (Fl × LE × AH) := x.bind fun q => (subV o q.1 q.2).bind fun x => (evE initOf F e env q.2).bind fun r => (augV op x r.1 r.2).bind fun y => (setSubV o q.1 y.1 y.2).bind fun σ => some (.next, env, σ)
noncomputable def k_augS3 (o i : V) (op : Operator) (e : IE) (x : Option V) : Option (Fl × LE × AH) := x.bind fun x => (evE initOf F e env σ).bind fun r => (augV op x r.1 r.2).bind fun y => (setSubV o i y.1 y.2).bind fun σ => some (.next, env, σ)
noncomputable def k_augS4 (o i : V) (op : Operator) (x : V) (y : RV) : Option (Fl × LE × AH) := y.bind fun r => (augV op x r.1 r.2).bind fun y => (setSubV o i y.1 y.2).bind fun σ => some (.next, env, σ)
noncomputable def k_augS5 (o i : V) (y : RV) : Option (Fl × LE × AH) := y.bind fun y => (setSubV o i y.1 y.2).bind fun σ => some (.next, env, σ)
theorem y_augS (o i : IE) (op : Operator) (e : IE) : exS initOf F (.augS o i op e) env σ = k_augS F env i op e (evE initOf F o env σ) := nr rfl
theorem k_augS_s (i : IE) (op : Operator) (e : IE) (o : V) : k_augS F env i op e (some (o, σ)) = k_augS2 F env o op e (evE initOf F i env σ) := nr rfl
theorem k_augS2_s (o i : V) (op : Operator) (e : IE) : k_augS2 F env o op e (some (i, σ)) = k_augS3 F env σ o i op e (subV o i σ) := nr rfl
theorem k_augS3_s (o i x : V) (op : Operator) (e : IE) : k_augS3 F env σ o i op e (some x) = k_augS4 env o i op x (evE initOf F e env σ) := nr rfl
theorem k_augS4_s (o i x y : V) (op : Operator) : k_augS4 env o i op x (some (y, σ)) = k_augS5 env o i (augV op x y σ) := nr rfl
theorem k_augS5_s (o i y : V) : k_augS5 env o i (some (y, σ)) = k_end env (setSubV o i y σ) := nr rfl
noncomputable def k_augD (key : Nat) (op : Operator) (e : IE) (x : RV) : Option (Fl × LE × AH) := x.bind fun p => (dsubV p.1 key p.2).bind fun x => (evE initOf F e env p.2).bind fun q => (augV op x q.1 q.2).bind fun r => (setKeyV p.1 key r.1 r.2).bind fun σ => some (.next, env, σ)
noncomputable def k_augD2 (o : V) (key : Nat) (op : Operator) (e : IE) (x : Option V) : Option (Fl × LE × AH) := x.bind fun x => (evE initOf F e env σ).bind fun q => (augV op x q.1 q.2).bind fun r => (setKeyV o key r.1 r.2).bind fun σ => some (.next, env, σ)
noncomputable def k_augD3 (o : V) (key : Nat) (op : Operator) (x : V) (y : RV) : Option (Fl × LE × AH) := y.bind fun q => (augV op x q.1 q.2).bind fun r => (setKeyV o key r.1 r.2).bind fun σ => some (.next, env, σ)
noncomputable def k_augD4 (o : V) (key : Nat) (y : RV) : Option (Fl × LE × AH) := y.bind fun r => (setKeyV o key r.1 r.2).bind fun σ => some (.next, env, σ)
theorem y_augD (o : IE) (key : Nat) (op : Operator) (e : IE) : exS initOf F (.augD o key op e) env σ = k_augD F env key op e (evE initOf F o env σ) := nr rfl
theorem k_augD_s (o : V) (key : Nat) (op : Operator) (e : IE) : k_augD F env key op e (some (o, σ)) = k_augD2 F env σ o key op e (dsubV o key σ) := nr rfl
theorem k_augD2_s (o x : V) (key : Nat) (op : Operator) (e : IE) : k_augD2 F env σ o key op e (some x) = k_augD3 env o key op x (evE initOf F e env σ) := nr rfl
theorem k_augD3_s (o x y : V) (key : Nat) (op : Operator) : k_augD3 env o key op x (some (y, σ)) = k_augD4 env o key (augV op x y σ) := nr rfl
theorem k_augD4_s (o v : V) (key : Nat) : k_augD4 env o key (some (v, σ)) = k_end env (setKeyV o key v σ) := nr rfl
noncomputable def k_dsub (k : Nat) (x : RV) : RV := x.bind fun p => (dsubV p.1 k p.2).map fun v => (v, p.2)
theorem z_dsub (e : IE) (k : Nat) : evE initOf F (.dsub e k) env σ = k_dsub k (evE initOf F e env σ) := nr rfl
theorem k_dsub_s (k : Nat) (v : V) : k_dsub k (some (v, σ)) = k_var σ (dsubV v k σ) := nr rfl
/- comparisons -/
noncomputable def k_one (op : CmpOp) (x : V) (y : RV) : Option (Bool × AH) := y.bind fun p => (cmpV op x p.1 p.2).map fun b => (b, p.2)
noncomputable def k_tst (x : Option Bool) : Option (Bool × AH) := x.map fun b => (b, σ)
theorem k_tst_s (b : Bool) : k_tst σ (some b) = some (b, σ) := nr rfl
theorem c_one (op : CmpOp) (e : IE) (x : V) : evC initOf F (.one op e) x env σ = k_one op x (evE initOf F e env σ) := nr rfl
theorem k_one_s (op : CmpOp) (x v : V) : k_one op x (some (v, σ)) = k_tst σ (cmpV op x v σ) := nr rfl
noncomputable def k_cc (op : CmpOp) (cs : ICs) (x : V) (y : RV) : Option (Bool × AH) := y.bind fun p => (cmpV op x p.1 p.2).bind fun b => match b with
    | true => evC initOf F cs p.1 env p.2
    | false => some (false, p.2)
noncomputable def k_cc2 (cs : ICs) (v : V) (y : Option Bool) : Option (Bool × AH) := y.bind fun b => match b with
    | true => evC initOf F cs v env σ
    | false => some (false, σ)
theorem c_cons (op : CmpOp) (e : IE) (cs : ICs) (x : V) : evC initOf F (.cons op e cs) x env σ = k_cc F env op cs x (evE initOf F e env σ) := nr rfl
theorem k_cc_s (op : CmpOp) (cs : ICs) (x v : V) : k_cc F env op cs x (some (v, σ)) = k_cc2 F env σ cs v (cmpV op x v σ) := nr rfl
theorem k_cc2_t (cs : ICs) (v : V) : k_cc2 F env σ cs v (some true) = evC initOf F cs v env σ := nr rfl
theorem k_cc2_f (cs : ICs) (v : V) : k_cc2 F env σ cs v (some false) = some (false, σ) := nr rfl
/- tests -/
noncomputable def k_val (x : RV) : Option (Bool × AH) := x.bind fun p => (truthV p.1).map fun b => (b, p.2)
theorem t_val (e : IE) : evT initOf F (.val e) env σ = k_val (evE initOf F e env σ) := nr rfl
theorem k_val_s (v : V) : k_val (some (v, σ)) = k_tst σ (truthV v) := nr rfl
noncomputable def k_tnot (x : Option (Bool × AH)) : Option (Bool × AH) := x.map fun p => (!p.1, p.2)
theorem t_not (t : IT) : evT initOf F (.not t) env σ = k_tnot (evT initOf F t env σ) := nr rfl
theorem k_tnot_s (b : Bool) : k_tnot (some (b, σ)) = some (!b, σ) := nr rfl
noncomputable def k_tbop (and : Bool) (b : IT) (x : Option (Bool × AH)) : Option (Bool × AH) := x.bind fun p => match p.1 == and with
    | true => evT initOf F b env p.2
    | false => some (!and, p.2)
theorem t_bop (and : Bool) (a b : IT) : evT initOf F (.bop and a b) env σ = k_tbop F env and b (evT initOf F a env σ) := nr rfl
theorem k_tbop_tt (b : IT) : k_tbop F env true b (some (true, σ)) = evT initOf F b env σ := nr rfl
theorem k_tbop_tf (b : IT) : k_tbop F env true b (some (false, σ)) = some (false, σ) := nr rfl
theorem k_tbop_ft (b : IT) : k_tbop F env false b (some (true, σ)) = some (true, σ) := nr rfl
theorem k_tbop_ff (b : IT) : k_tbop F env false b (some (false, σ)) = evT initOf F b env σ := nr rfl
noncomputable def k_tcmp (cs : ICs) (x : RV) : Option (Bool × AH) := x.bind fun p => evC initOf F cs p.1 env p.2
theorem t_cmp (a : IE) (cs : ICs) : evT initOf F (.cmp a cs) env σ = k_tcmp F env cs (evE initOf F a env σ) := nr rfl
theorem k_tcmp_s (cs : ICs) (v : V) : k_tcmp F env cs (some (v, σ)) = evC initOf F cs v env σ := nr rfl
theorem i_nil : evI initOf F .nil env σ = some (true, σ) := nr rfl
end
section
variable (σ : AH)
theorem b_add (a b : Int) : binV .Add (.int a) (.int b) σ = some (.int (a + b), σ) := nr rfl
theorem b_sub (a b : Int) : binV .Sub (.int a) (.int b) σ = some (.int (a - b), σ) := nr rfl
theorem b_and (a b : Int) : binV .BitAnd (.int a) (.int b) σ = some (.int (Builtin.bitAnd a b), σ) := nr rfl
theorem b_or (a b : Int) : binV .BitOr (.int a) (.int b) σ = some (.int (Builtin.bitOr a b), σ) := nr rfl
theorem b_xor (a b : Int) : binV .BitXor (.int a) (.int b) σ = some (.int (Builtin.bitXor a b), σ) := nr rfl
theorem b_shr (a : Int) (n : Nat) : binV .RShift (.int a) (.int n) σ = some (.int (a.fdiv ((2 : Int) ^ n)), σ) := by
  have h : intBin .RShift a n = (if decide (0 ≤ (n : Int)) = true then some (a.fdiv ((2 : Int) ^ (n : Int).toNat)) else none) := by
    delta intBin; dsimp only
  rw [if_pos (decide_eq_true (Int.natCast_nonneg n)), Int.toNat_natCast] at h
  exact congrArg (Option.map fun z => (V.int z, σ)) h
theorem b_shl {a : Int} {n : Nat} (h : n ≤ 1000 ∧ bitsOk a = true) : binV .LShift (.int a) (.int n) σ = some (.int (a * (2 : Int) ^ n), σ) := by
  obtain ⟨h1, h2⟩ := h
  show Option.map _ (if (decide (0 ≤ (n : Int)) && decide ((n : Int) ≤ 1000) && bitsOk a) = true then some (a * (2 : Int) ^ (n : Int).toNat) else none) = _
  rw [if_pos (by rw [decide_eq_true (Int.natCast_nonneg n), decide_eq_true (show (n : Int) ≤ 1000 by lia), h2]; rfl), Int.toNat_natCast]; rfl
theorem b_mul {a b : Int} (h : bitsOk a = true ∧ bitsOk b = true) : binV .Mult (.int a) (.int b) σ = some (.int (a * b), σ) := by
  show Option.map _ (if (bitsOk a && bitsOk b) = true then some (a * b) else none) = _
  rw [if_pos (by rw [h.1, h.2]; rfl)]; rfl
theorem u_add (a b : Int) : augV .Add (.int a) (.int b) σ = some (.int (a + b), σ) := nr rfl
theorem u_sub (a b : Int) : augV .Sub (.int a) (.int b) σ = some (.int (a - b), σ) := nr rfl
theorem u_or (a b : Int) : augV .BitOr (.int a) (.int b) σ = some (.int (Builtin.bitOr a b), σ) := nr rfl
theorem u_xor (a b : Int) : augV .BitXor (.int a) (.int b) σ = some (.int (Builtin.bitXor a b), σ) := nr rfl
theorem ll_of {n : Nat} (h : n ≤ 2000) : (n ≤ lineL) = True := eq_true (by unfold lineL; lia)
theorem u_str {a b : List Nat} (h : a.length + b.length ≤ 2000) : augV .Add (.str a) (.str b) σ = some (.str (a ++ b), σ) := by
  exact if_pos (of_eq_true (ll_of h))
theorem b_str {a b : List Nat} (h : a.length + b.length ≤ 2000) : binV .Add (.str a) (.str b) σ = some (.str (a ++ b), σ) := by
  exact if_pos (of_eq_true (ll_of h))
theorem bi_str' {i : Int} (h : 0 ≤ i ∧ i < 1000000) : biV .str [.int i] σ = some (.str (intText i), σ) := by
  show (if 0 ≤ i ∧ i < 1000000 then some (V.str (intText i), σ) else none) = _
  rw [if_pos h]
theorem bi_str {g : Nat} (h : g < 1000) : biV .str [.int g] σ = some (.str (intText g), σ) := by
  exact bi_str' σ (by lia)
theorem bi_len_s {x : List Nat} (h : x.length ≤ 2000) : biV .len [.str x] σ = some (.int x.length, σ) := by
  exact if_pos (of_eq_true (ll_of h))
theorem bi_len_l {n : Nat} {vs : List V} (h : σ[n]? = some (.list vs)) (h2 : vs.length ≤ 2000) : biV .len [.obj n] σ = some (.int vs.length, σ) := by
  show (listAt σ n).bind _ = _
  rw [show listAt σ n = some vs by delta listAt; rw [h]]
  exact if_pos (of_eq_true (ll_of h2))
theorem bi_range {n : Nat} (h : n ≤ 2000) : biV .range [.int n] σ = some (.range 0 n 1, σ) := by
  exact if_pos (decide_eq_true (by lia))
theorem m_eq (a b : Int) : cmpV .Eq (.int a) (.int b) σ = some (decide (a = b)) := nr rfl
theorem m_ne (a b : Int) : cmpV .NotEq (.int a) (.int b) σ = some (!decide (a = b)) := nr rfl
theorem m_lt (a b : Int) : cmpV .Lt (.int a) (.int b) σ = some (decide (a < b)) := nr rfl
theorem m_le (a b : Int) : cmpV .LtE (.int a) (.int b) σ = some (decide (a ≤ b)) := nr rfl
theorem m_gt (a b : Int) : cmpV .Gt (.int a) (.int b) σ = some (decide (b < a)) := nr rfl
theorem m_ge (a b : Int) : cmpV .GtE (.int a) (.int b) σ = some (decide (b ≤ a)) := nr rfl
theorem m_seq (a b : List Nat) : cmpV .Eq (.str a) (.str b) σ = some (decide (a = b)) := nr rfl
theorem m_sne (a b : List Nat) : cmpV .NotEq (.str a) (.str b) σ = some (!decide (a = b)) := nr rfl
theorem m_in (c : Nat) (b : List Nat) : cmpV .In (.str [c]) (.str b) σ = some (b.contains c) := nr rfl
theorem v_bool (b : Bool) : truthV (.bool b) = some b := nr rfl
theorem v_int (i : Int) : truthV (.int i) = some (!decide (i = 0)) := nr rfl
theorem list_at {n : Nat} {vs : List V} (h : σ[n]? = some (.list vs)) : listAt σ n = some vs := by delta listAt; rw [h]
theorem sub_l {n i : Nat} {vs : List V} {v : V} (h : σ[n]? = some (.list vs)) (h1 : vs[i]? = some v) (h2 : i < 2000) : subV (.obj n) (.int i) σ = some v := by
  have : (0 ≤ (i : Int) ∧ (i : Int) < 100000) := by lia
  show (if 0 ≤ (i : Int) ∧ (i : Int) < 100000 then (listAt σ n).bind fun vs => vs[(i : Int).toNat]? else none) = _
  rw [if_pos this, list_at σ h, Int.toNat_natCast]
  exact h1
theorem sub_t {i : Nat} {vs : List V} {v : V} (h1 : vs[i]? = some v) (h2 : i < 2000) : subV (.tup vs) (.int i) σ = some v := by
  have : (0 ≤ (i : Int) ∧ (i : Int) < 100000) := by lia
  show (if 0 ≤ (i : Int) ∧ (i : Int) < 100000 then vs[(i : Int).toNat]? else none) = _
  rw [if_pos this, Int.toNat_natCast]
  exact h1
theorem sub_sx {i c : Nat} {x : List Nat} (h1 : x[i]? = some c) (h2 : i < 2000) : subV (.str x) (.int i) σ = some (.str [c]) := by
  have : (0 ≤ (i : Int) ∧ (i : Int) < 100000) := by lia
  have e : subV (.str x) (.int i) σ = if 0 ≤ (i : Int) ∧ (i : Int) < 100000 then (x[(i : Int).toNat]?).map (fun c => V.str [c]) else none := rfl
  rw [e, if_pos this, Int.toNat_natCast, h1]; rfl
theorem attr_i {n c a : Nat} {fs : List (Nat × V)} {v : V} (h : σ[n]? = some (.inst c fs)) (h1 : getF a fs = some v) : attrV (.obj n) a σ = some v := by
  show (match σ[n]? with | some (.inst _ fs) => getF a fs | _ => Option.none) = _
  rw [h]; exact h1
theorem set_l {n i : Nat} {vs : List V} (v : V) (h : σ[n]? = some (.list vs)) (h1 : i < vs.length) (h2 : i < 2000) : setSubV (.obj n) (.int (i : Int)) v σ = some (σ.set n (.list (vs.set i v))) := by
  have c : 0 ≤ (i : Int) ∧ (i : Int).toNat < vs.length ∧ (i : Int) < 100000 := ⟨by lia, by rw [Int.toNat_natCast]; exact h1, by lia⟩
  have e : setSubV (.obj n) (.int (i : Int)) v σ = (match σ[n]? with | some (.list vs) => if 0 ≤ (i : Int) ∧ (i : Int).toNat < vs.length ∧ (i : Int) < 100000 then some (σ.set n (.list (vs.set (i : Int).toNat v))) else Option.none | _ => Option.none) := rfl
  rw [e, h]
  dsimp only
  rw [if_pos c, Int.toNat_natCast]
theorem b_mod {x : Int} {m : Int} (h : m ≠ 0) : binV .Mod (.int x) (.int m) σ = some (.int (x.fmod m), σ) := by
  show Option.map _ (if decide (m ≠ 0) = true then some (x.fmod m) else none) = _
  rw [if_pos (decide_eq_true h)]; rfl
theorem b_fdiv {x : Int} {m : Int} (h : m ≠ 0 ∧ bitsOk x = true ∧ bitsOk m = true) : binV .FloorDiv (.int x) (.int m) σ = some (.int (x.fdiv m), σ) := by
  show Option.map _ (if (decide (m ≠ 0) && bitsOk x && bitsOk m) = true then some (x.fdiv m) else none) = _
  rw [if_pos (and_i (and_i (decide_eq_true h.1) h.2.1) h.2.2)]; rfl
theorem set_fs {n c a : Nat} {fs : List (Nat × V)} (v : V) (h : σ[n]? = some (.inst c fs)) (h1 : fs.length < 100) : setAttrV (.obj n) a v σ = some (σ.set n (.inst c (putF a v fs))) := by
  have e : setAttrV (.obj n) a v σ = (match σ[n]? with | some (.inst c fs) => if fs.length < 100 then some (σ.set n (.inst c (putF a v fs))) else Option.none | _ => Option.none) := rfl
  rw [e, h]
  exact if_pos h1
theorem me_append {n : Nat} {vs : List V} (v : V) (h : σ[n]? = some (.list vs)) (h2 : vs.length ≤ 2000) : methV .append (.obj n) [v] σ = some (.none, σ.set n (.list (vs ++ [v]))) := by
  show (listAt σ n).bind _ = _
  rw [list_at σ h]
  exact if_pos (of_eq_true (ll_of h2))
theorem lst_obj {n : Nat} {vs : List V} (h : σ[n]? = some (.list vs)) : lstOk (.obj n) σ = true := by
  show (listAt σ n).isSome = true
  rw [list_at σ h]; rfl
theorem me_find (x : List Nat) (c : Nat) (h : x.length ≤ 2000) : methV .find (.str x) [.str [c]] σ = some (.int (findL c x 0), σ) := by
  exact if_pos (of_eq_true (ll_of h))
theorem me_split (x : List Nat) (c : Nat) (h : x.length ≤ 2000) : methV .split (.str x) [.str [c]] σ = some (.obj σ.length, σ ++ [.list ((splitL c x).map .str)]) := by
  exact if_pos (of_eq_true (ll_of h))
theorem strsOf_map : ∀ xs : List (List Nat), strsOf (xs.map .str) = some xs
  | [] => rfl
  | x :: r => by
    show (strsOf (r.map .str)).map _ = _
    rw [strsOf_map r]; rfl
theorem intsOf_map : ∀ xs : List Int, intsOf (xs.map .int) = some xs
  | [] => rfl
  | x :: r => by
    show (intsOf (r.map .int)).map _ = _
    rw [intsOf_map r]; rfl
theorem me_join {s : List Nat} {n : Nat} {xs : List (List Nat)} (h : σ[n]? = some (.list (xs.map .str))) (h1 : (joinL s xs).length ≤ 2000 ∧ xs.length ≤ 2000 ∧ s.length ≤ 16) : methV .join (.str s) [.obj n] σ = some (.str (joinL s xs), σ) := by
  show (listAt σ n).bind (fun ws => (strsOf ws).bind _) = _
  rw [list_at σ h, Option.bind_some, strsOf_map]
  exact if_pos ⟨of_eq_true (ll_of h1.1), of_eq_true (ll_of h1.2.1), h1.2.2⟩
end
theorem make_piece_ok (d : Nat) (a k : Int) (ha : a = 0 ∨ a = 1) (σ : AH) : runF initOf tbl (d + 1) 0 [.int a, .int k] σ = some (.int (a * 8 + k), σ) := by
  have h : bitsOk a = true := by rcases ha with rfl | rfl <;> decide
  refine run_ret (fn := f_make_piece) (env' := [some (.int a), some (.int k)]) rfl rfl ?_
  show (Option.bind (Option.bind (binV .Mult (.int a) (.int 8) σ) _) _).bind _ = _
  rw [b_mul σ ⟨h, rfl⟩]; rfl
theorem side_of_ok (d : Nat) (a : Int) (σ : AH) : runF initOf tbl (d + 1) 1 [.int a] σ = some (.int (a.fdiv 8), σ) :=
  run_ret (fn := f_side_of) (env' := [some (.int a)]) rfl rfl rfl
theorem kind_of_ok (d : Nat) (a : Int) (σ : AH) : runF initOf tbl (d + 1) 2 [.int a] σ = some (.int (Builtin.bitAnd a 7), σ) :=
  run_ret (fn := f_kind_of) (env' := [some (.int a)]) rfl rfl rfl
end Mine
namespace Mine
open PySem
theorem kindsOf_get (b : List Int) (k : Nat) (hk : k < 7) : (kindsOf b)[k]? = some ((bitsN (isK (k : Nat)) b : Nat) : Int) := by
  unfold kindsOf; simp [hk]
theorem pow_c (s : Nat) : (2 : Int) ^ s = ((2 ^ s : Nat) : Int) := by push_cast; rfl
theorem piece_fin : ∀ (s : Fin 2) (k : Fin 7), 1 ≤ k.val → ((s.val : Int) * 8 + k.val) ≠ 0 ∧ ((s.val : Int) * 8 + k.val).emod 8 = k.val ∧ ((s.val : Int) * 8 + k.val).ediv 8 = s.val := by decide
theorem isK_piece (s k j : Nat) (_hs : s < 2) (hk : 1 ≤ k ∧ k ≤ 6) : isK (j : Int) ((s : Int) * 8 + k) = decide (j = k) := by
  unfold isK
  obtain ⟨h1, h2, _⟩ := piece_fin ⟨s, _hs⟩ ⟨k, Nat.lt_succ_of_le hk.2⟩ hk.1
  dsimp only at h1 h2
  rw [h2]
  have : ((s : Int) * 8 + k != 0) = true := by simpa using h1
  rw [this, Bool.true_and, Bool.eq_iff_iff]
  simp
  lia
theorem isS_piece (s k j : Nat) (_hs : s < 2) (hk : 1 ≤ k ∧ k ≤ 6) : isS (j : Int) ((s : Int) * 8 + k) = decide (j = s) := by
  unfold isS
  obtain ⟨h1, _, h2⟩ := piece_fin ⟨s, _hs⟩ ⟨k, Nat.lt_succ_of_le hk.2⟩ hk.1
  dsimp only at h1 h2
  rw [h2]
  have : ((s : Int) * 8 + k != 0) = true := by simpa using h1
  rw [this, Bool.true_and, Bool.eq_iff_iff]
  simp
  lia
theorem isK_zero (j : Int) : isK j 0 = false := rfl
theorem isS_zero (j : Int) : isS j 0 = false := rfl
theorem kindsOf_put {b : List Int} {s sd k : Nat} (hs : s < b.length) (h0 : b[s]? = some 0) (hsd : sd < 2) (hk : 1 ≤ k ∧ k ≤ 6) :
    kindsOf (b.set s ((sd : Int) * 8 + k)) = (kindsOf b).set k (((bitsN (isK (k : Nat)) b ||| 2 ^ s : Nat) : Int)) := by
  apply List.ext_getElem?
  intro j
  by_cases hj : j < 7
  · rw [kindsOf_get _ _ hj]
    by_cases hjk : j = k
    · subst hjk
      rw [List.getElem?_set_self (by unfold kindsOf; simp; lia), bits_set hs (by rw [h0]; rfl) (by rw [isK_piece _ _ _ hsd hk]; simp)]
    · rw [List.getElem?_set_ne (Ne.symm hjk), kindsOf_get _ _ hj, bits_same (by rw [h0]; rfl) (by rw [isK_piece _ _ _ hsd hk]; simpa using hjk)]
  · rw [List.getElem?_eq_none (by unfold kindsOf; simp; lia), List.getElem?_eq_none (by rw [List.length_set]; unfold kindsOf; simp; lia)]
theorem sidesOf_put {b : List Int} {s sd k : Nat} (hs : s < b.length) (h0 : b[s]? = some 0) (hsd : sd < 2) (hk : 1 ≤ k ∧ k ≤ 6) :
    sidesOf (b.set s ((sd : Int) * 8 + k)) = (sidesOf b).set sd (((bitsN (isS (sd : Nat)) b ||| 2 ^ s : Nat) : Int)) := by
  have h1 := isS_piece sd k 0 hsd hk
  have h2 := isS_piece sd k 1 hsd hk
  unfold sidesOf
  rcases (by lia : sd = 0 ∨ sd = 1) with rfl | rfl
  · have e1 := bits_set (f := isS 0) (b := b) hs (v := ((0 : Nat) : Int) * 8 + k) (by rw [h0]; rfl) (by simpa using h1)
    have e2 := bits_same (f := isS 1) (b := b) (s := s) (v := ((0 : Nat) : Int) * 8 + k) (by rw [h0]; rfl) (by simpa using h2)
    rw [e1, e2]; rfl
  · have e1 := bits_set (f := isS 1) (b := b) hs (v := ((1 : Nat) : Int) * 8 + k) (by rw [h0]; rfl) (by simpa using h2)
    have e2 := bits_same (f := isS 0) (b := b) (s := s) (v := ((1 : Nat) : Int) * 8 + k) (by rw [h0]; rfl) (by simpa using h1)
    rw [e1, e2]; rfl
theorem zob_at : ∀ v s : Nat, v < 15 → s < 28 → ∃ z : Int, ∃ r vs, (base[15]? = some (.list r) ∧ r[v]? = some (.obj (v + 2)) ∧ base[v]? = some (.list vs) ∧ vs[s]? = some (.int z)) := by
  have key : ∀ v : Fin 15, (base[v.val]?.any fun o => match o with | .list vs => (vs.length == 28 && vs.all fun x => (match x with | .int _ => true | _ => false)) | _ => false) = true := by decide +kernel
  have rows : base[15]? = some (.list ((List.range 15).map fun i => .obj (i + 2))) := rfl
  intro v s hv hs
  have h := key ⟨v, hv⟩
  cases q : base[v]? with
  | none => rw [q] at h; cases h
  | some o =>
    rw [q] at h
    cases o with
    | list vs =>
      simp only [Option.any_some, Bool.and_eq_true, beq_iff_eq, List.all_eq_true] at h
      obtain ⟨h1, h2⟩ := h
      have hlt : s < vs.length := by lia
      have := h2 _ (List.getElem_mem hlt)
      cases z : vs[s] with
      | int i => exact ⟨i, _, vs, rows, by simp [hv], rfl, by rw [List.getElem?_eq_getElem hlt, z]⟩
      | _ => rw [z] at this; cases this
    | _ => cases h
theorem put_piece_ok (d : Nat) {σ : AH} {p : Nat} {P : Pz} (G : Geo σ) (H : PosAt σ p P) {sd k s : Nat} (hsd : sd < 2) (hk : 1 ≤ k ∧ k ≤ 6) (hs : s < 28) (h0 : P.b[s]? = some 0) :
    ∃ key σ', runF initOf tbl (d + 2) 25 [.obj p, .int ((sd : Int) * 8 + k), .int s] σ = some (.none, σ') ∧ PosAt σ' p { P with b := P.b.set s ((sd : Int) * 8 + k), key := key } ∧ σ'.length = σ.length ∧ ∀ i, (i < p ∨ p + 6 < i) → σ'[i]? = σ[i]? := by
  have hlt := H.lt
  have hlo := H.lo
  have hlen := H.len
  have hobj := H.obj
  obtain ⟨z, r, vs, z1, z2, z3, z4⟩ := zob_at (sd * 8 + k) s (by lia) hs
  have g20 : σ[20]? = some (.inst 1 [(14, .obj 17), (15, .obj 18), (16, .obj 19), (17, .int 96889010407)]) := G 18 (by decide)
  have g17 : σ[17]? = base[15]? := G 15 (by decide)
  have gr : σ[sd * 8 + k + 2]? = base[sd * 8 + k]? := G _ (by lia)
  rw [z1] at g17
  rw [z3] at gr
  have vv : (sd : Int) * 8 + k = ((sd * 8 + k : Nat) : Int) := by lia
  have kk : (kindsOf P.b)[k]? = some ((bitsN (isK (k : Nat)) P.b : Nat) : Int) := kindsOf_get _ _ (by lia)
  have ss : (sidesOf P.b)[sd]? = some ((bitsN (isS (sd : Nat)) P.b : Nat) : Int) := by
    rcases (by lia : sd = 0 ∨ sd = 1) with rfl | rfl <;> rfl
  have ka : Builtin.bitAnd ((sd : Int) * 8 + k) 7 = k := kind_and ⟨sd, by lia⟩ ⟨k, by lia⟩ hsd
  have sa : ((sd : Int) * 8 + k).fdiv 8 = sd := by
    rw [Int.fdiv_eq_ediv_of_nonneg _ (by decide)]; lia
  have lk : (kindsOf P.b).length = 7 := by unfold kindsOf; simp
  have ls : (sidesOf P.b).length = 2 := rfl
  have sh := b_shl σ (a := 1) (n := s) ⟨by lia, by decide⟩
  rw [show (1 : Int) * (2 : Int) ^ s = ((2 ^ s : Nat) : Int) by rw [pow_c]; lia] at sh
  have a20 := attr_i (a := 20) σ hobj rfl
  have st1 := set_l σ (.int ((sd : Int) * 8 + k)) H.board (i := s) (by rw [List.length_map]; lia) (by lia)
  rw [← List.map_set] at st1
  obtain ⟨σ1, e1⟩ : ∃ σ1 : AH, σ1 = σ.set (p + 2) (.list ((P.b.set s ((sd : Int) * 8 + k)).map .int)) := ⟨_, rfl⟩
  rw [← e1] at st1
  have n1 : ∀ j, j ≠ p + 2 → σ1[j]? = σ[j]? := fun j hj => by rw [e1, List.getElem?_set_ne (Ne.symm hj)]
  have kd := kind_of_ok d ((sd : Int) * 8 + k) σ1
  rw [ka] at kd
  have hobj1 : σ1[p]? = _ := (n1 p (by lia)).trans hobj
  have a21 := attr_i (a := 21) σ1 hobj1 rfl
  have hk1 := (n1 (p + 4) (by lia)).trans H.kinds
  have sk := sub_l σ1 hk1 (i := k) (by rw [List.getElem?_map, kk]; rfl) (by lia)
  have st2 := set_l σ1 (.int ((bitsN (isK (k : Nat)) P.b ||| 2 ^ s : Nat) : Int)) hk1 (i := k) (by rw [List.length_map]; lia) (by lia)
  rw [← List.map_set, ← kindsOf_put (by lia) h0 hsd hk] at st2
  obtain ⟨σ2, e2⟩ : ∃ σ2 : AH, σ2 = σ1.set (p + 4) (.list ((kindsOf (P.b.set s ((sd : Int) * 8 + k))).map .int)) := ⟨_, rfl⟩
  rw [← e2] at st2
  have n2 : ∀ j, j ≠ p + 2 → j ≠ p + 4 → σ2[j]? = σ[j]? := fun j hj hj2 => by rw [e2, List.getElem?_set_ne (Ne.symm hj2), n1 j hj]
  have sdo := side_of_ok d ((sd : Int) * 8 + k) σ2
  rw [sa] at sdo
  have hobj2 : σ2[p]? = _ := (n2 p (by lia) (by lia)).trans hobj
  have a22 := attr_i (a := 22) σ2 hobj2 rfl
  have hs2 := (n2 (p + 5) (by lia) (by lia)).trans H.sides
  have ssb := sub_l σ2 hs2 (i := sd) (by rw [List.getElem?_map, ss]; rfl) (by lia)
  have st3 := set_l σ2 (.int ((bitsN (isS (sd : Nat)) P.b ||| 2 ^ s : Nat) : Int)) hs2 (i := sd) (by rw [List.length_map]; lia) (by lia)
  rw [← List.map_set, ← sidesOf_put (by lia) h0 hsd hk] at st3
  obtain ⟨σ3, e3⟩ : ∃ σ3 : AH, σ3 = σ2.set (p + 5) (.list ((sidesOf (P.b.set s ((sd : Int) * 8 + k))).map .int)) := ⟨_, rfl⟩
  rw [← e3] at st3
  have n3 : ∀ j, j ≠ p + 2 → j ≠ p + 4 → j ≠ p + 5 → σ3[j]? = σ[j]? := fun j hj hj2 hj3 => by rw [e3, List.getElem?_set_ne (Ne.symm hj3), n2 j hj hj2]
  have hobj3 : σ3[p]? = _ := (n3 p (by lia) (by lia) (by lia)).trans hobj
  have a24 := attr_i (a := 24) σ3 hobj3 rfl
  have a19 := attr_i (a := 19) σ3 hobj3 rfl
  have a14 := attr_i (a := 14) σ3 ((n3 20 (by lia) (by lia) (by lia)).trans g20) rfl
  have q1 := sub_l σ3 ((n3 17 (by lia) (by lia) (by lia)).trans g17) (i := sd * 8 + k) z2 (by lia)
  rw [← vv] at q1
  have q2 := sub_l σ3 ((n3 (sd * 8 + k + 2) (by lia) (by lia) (by lia)).trans gr) (i := s) z4 (by lia)
  have st4 := set_fs σ3 (a := 24) (.int (Builtin.bitXor P.key z)) hobj3 (by show 12 < 100; lia)
  rw [show putF 24 (.int (Builtin.bitXor P.key z)) (posFs p P) = posFs p { P with b := P.b.set s ((sd : Int) * 8 + k), key := Builtin.bitXor P.key z } from rfl] at st4
  refine ⟨Builtin.bitXor P.key z, σ3.set p (.inst 2 (posFs p { P with b := P.b.set s ((sd : Int) * 8 + k), key := Builtin.bitXor P.key z })), ?_, ⟨?_, ?_, ?_, ?_, ?_, by simpa using hlen, hlo⟩, by rw [e3, e2, e1]; simp, fun i hi => ?_⟩
  · refine run_next (env' := [some (.obj p), some (.int ((sd : Int) * 8 + k)), some (.int s), some (.int ((2 ^ s : Nat) : Int))]) (fn := f_put_piece) rfl rfl ?_
    show exSs _ _ f_put_piece.body ([some (.obj p), some (.int ((sd : Int) * 8 + k)), some (.int s), none]) σ = _
    generalize runF initOf tbl (d + 1) = F at *
    simp only [y_nil, y_cons, k_seq_n, k_seq_r, k_seq_c, y_asg, k_asg_s, k_end_s, y_asgA, k_asgA_s, k_asgA2_s, y_unp, k_unp_s, k_unp2_s, k_unp3_s, y_unpA, k_unpA_s, k_unpA2_s, y_aug, k_aug_s, k_aug2_s, y_augA, k_augA_s, k_augA2_s, k_augA3_s, k_augA4_s, y_ife, k_ife_t, k_ife_f, y_for, y_forT, k_for_s, y_ret, k_ret_s, y_exp, k_exp_s, y_cont, y_try, k_var_s, z_cst, z_var, z_tab, z_bin, k_bin_s, k_bin2_s, z_neg, k_neg_s, z_inv, k_inv_s, z_not, k_not_b, z_ife, k_ifE_t, k_ifE_f, k_bool_s, z_cmp, k_cmp_s, z_bop, k_bop_tt, k_bop_tf, k_bop_ft, k_bop_ff, z_attr, k_attr_s, z_sub, k_sub_s, k_sub2_s, z_slice, k_slice_s, k_slice2_s, k_slice3_s, z_rev, k_rev_s, z_list, z_tup, k_list0, k_list1, k_list6, k_tup2, k_tup3, k_tup4, z_call, k_call_s, z_new, k_new_s, k_new2_s, z_bi, k_bi_s, z_meth, k_meth_s, k_meth2_s, k_meth3_s, lst_str, z_comp, z_nil, z_cons, k_cons_s, k_cons2_s, k_tst_s, c_one, k_one_s, c_cons, k_cc_s, k_cc2_t, k_cc2_f, t_val, k_val_s, t_not, k_tnot_s, t_bop, k_tbop_tt, k_tbop_tf, k_tbop_ft, k_tbop_ff, t_cmp, k_tcmp_s, i_nil, b_add, b_sub, b_and, b_or, b_xor, u_add, u_sub, u_or, u_xor, m_eq, m_ne, m_lt, m_le, m_gt, m_ge, m_seq, m_sne, v_bool, v_int, Bool.not_true, Bool.not_false, Option.join_some, g0, g1, g2, g3, g4, g5, g6, g7, g8, g9, g10, g11, s0, s1, s2, s3, s4, s5, s6, s7, s8, s9, s10, s11, y_asgS, k_asgS_s, k_asgS2_s, k_asgS3_s, y_augS, k_augS_s, k_augS2_s, k_augS3_s, k_augS4_s, k_augS5_s, y_augD, k_augD_s, k_augD2_s, k_augD3_s, k_augD4_s, z_dsub, k_dsub_s, f_put_piece, sh, a20, st1, kd, a21, sk, or_nn, st2, sdo, a22, ssb, st3, a24, a19, a14, q1, q2, st4]
  · rw [List.getElem?_set_self (by rw [e3, e2, e1]; simp; lia)]
  · rw [e3, e2, e1, List.getElem?_set_ne (by lia), List.getElem?_set_ne (by lia), List.getElem?_set_ne (by lia), List.getElem?_set_self (by lia)]
  · rw [e3, e2, e1, List.getElem?_set_ne (by lia), List.getElem?_set_ne (by lia), List.getElem?_set_self (by simp; lia)]
  · rw [e3, e2, e1, List.getElem?_set_ne (by lia), List.getElem?_set_self (by simp; lia)]
  · rw [List.getElem?_set_ne (by lia), n3 _ (by lia) (by lia) (by lia)]; exact H.hist
  · rw [List.getElem?_set_ne (by lia), n3 _ (by lia) (by lia) (by lia)]
end Mine
namespace Mine
open PySem
theorem run_ret' {d f : Nat} {fn : Fn} {vs : List V} {σ S : AH} {v : V} (h : tbl f = some fn) (hl : vs.length = fn.n)
    (e : ∃ env', exSs initOf (runF initOf tbl d) fn.body (vs.map some ++ List.replicate fn.m none) σ = some (.ret v, env', S)) : runF initOf tbl (d + 1) f vs σ = some (v, S) :=
  let ⟨_, e⟩ := e; run_ret h hl e
theorem run_next' {d f : Nat} {fn : Fn} {vs : List V} {σ S : AH} (h : tbl f = some fn) (hl : vs.length = fn.n)
    (e : ∃ env', exSs initOf (runF initOf tbl d) fn.body (vs.map some ++ List.replicate fn.m none) σ = some (.next, env', S)) : runF initOf tbl (d + 1) f vs σ = some (.none, S) :=
  let ⟨_, e⟩ := e; run_next h hl e
structure PressAt (σ : AH) (xs : List Int) (n : Nat) : Prop where
  row : σ[0]? = some (.list (xs.map .int))
  at' : σ[1]? = some (.dict [(26, .obj 0), (27, .int n)])
  len : xs.length ≤ 30
theorem fmod_nat (x : Int) (m : Nat) (hm : 0 < m) : ∃ v : Nat, v < m ∧ x.fmod (m : Int) = (v : Int) := by
  have h1 : x.fmod (m : Int) = x % (m : Int) := by
    rw [Int.fmod_eq_emod_of_nonneg _ (by lia)]
  have h2 := Int.emod_nonneg x (show (m : Int) ≠ 0 by lia)
  have h3 := Int.emod_lt_of_pos x (show (0 : Int) < m by lia)
  exact ⟨(x % (m : Int)).toNat, by lia, by rw [h1]; lia⟩
theorem tab_at : ∀ j : Fin 20, ∃ z : Int, ([3, 3, 0, 2, 4, 8, 1, 0, 16, 0, 1, 12, 0, 0, 1, 4, 1, 1, 7, 40] : List Int)[j.val]? = some z := fun j => ⟨_, List.getElem?_eq_getElem (by simp)⟩
theorem dsub_d {σ : AH} {n a : Nat} {fs : List (Nat × V)} {v : V} (h : σ[n]? = some (.dict fs)) (h1 : getF a fs = some v) : dsubV (.obj n) a σ = some v := by
  show (match σ[n]? with | some (.dict fs) => getF a fs | _ => Option.none) = _
  rw [h]; exact h1
theorem law_type_ok (d : Nat) {σ : AH} {xs : List Int} {n m : Nat} (H : PressAt σ xs n) (hm : 0 < m) : ∃ v : Nat, v < m ∧ runF initOf tbl (d + 1) 59 [.obj 1, .int m] σ = some (.int v, σ.set 1 (.dict [(26, .obj 0), (27, .int ((n + 1 : Nat) : Int))])) ∧ PressAt (σ.set 1 (.dict [(26, .obj 0), (27, .int ((n + 1 : Nat) : Int))])) xs (n + 1) := by
  have h1 : 1 < σ.length := (List.getElem?_eq_some_iff.mp H.at').1
  have H' : PressAt (σ.set 1 (.dict [(26, .obj 0), (27, .int ((n + 1 : Nat) : Int))])) xs (n + 1) := ⟨by rw [List.getElem?_set_ne (by decide)]; exact H.row, by rw [List.getElem?_set_self h1], H.len⟩
  have c1 : (n : Int) + 1 = ((n + 1 : Nat) : Int) := by lia
  have c2 : ((n + 1 : Nat) : Int) - 1 = (n : Int) := by lia
  have hset : setKeyV (.obj 1) 27 (.int ((n + 1 : Nat) : Int)) σ = some (σ.set 1 (.dict [(26, .obj 0), (27, .int ((n + 1 : Nat) : Int))])) := by
    delta setKeyV; dsimp only; rw [H.at']; rfl
  have d27 := dsub_d (a := 27) H.at' rfl
  generalize σ.set 1 (.dict [(26, .obj 0), (27, .int ((n + 1 : Nat) : Int))]) = σ1 at *
  have e27 := dsub_d (a := 27) H'.at' rfl
  have e26 := dsub_d (a := 26) H'.at' rfl
  have hl := H.len
  have bl := bi_len_l σ1 H'.row (by rw [List.length_map]; lia)
  rw [List.length_map] at bl
  by_cases hn : n + 1 ≤ xs.length
  · have sb := sub_l σ1 H'.row (i := n) (v := .int xs[n]) (by simp [show n < xs.length by lia]) (by lia)
    obtain ⟨v, v1, v2⟩ := fmod_nat xs[n] m hm
    have bm := b_mod σ1 (x := xs[n]) (m := (m : Int)) (by lia)
    rw [v2] at bm
    have dc : decide (((n + 1 : Nat) : Int) ≤ (xs.length : Int)) = true := decide_eq_true (by lia)
    refine ⟨v, v1, ?_, H'⟩
    refine run_ret' (fn := f_law_type) rfl rfl ?_
    show ∃ env', exSs _ _ f_law_type.body ([some (.obj 1), some (.int m)]) σ = _
    generalize runF initOf tbl d = F at *
    simp only [y_nil, y_cons, k_seq_n, k_seq_r, k_seq_c, y_asg, k_asg_s, k_end_s, y_asgA, k_asgA_s, k_asgA2_s, y_unp, k_unp_s, k_unp2_s, k_unp3_s, y_unpA, k_unpA_s, k_unpA2_s, y_aug, k_aug_s, k_aug2_s, y_augA, k_augA_s, k_augA2_s, k_augA3_s, k_augA4_s, y_ife, k_ife_t, k_ife_f, y_for, y_forT, k_for_s, y_ret, k_ret_s, y_exp, k_exp_s, y_cont, y_try, k_var_s, z_cst, z_var, z_tab, z_bin, k_bin_s, k_bin2_s, z_neg, k_neg_s, z_inv, k_inv_s, z_not, k_not_b, z_ife, k_ifE_t, k_ifE_f, k_bool_s, z_cmp, k_cmp_s, z_bop, k_bop_tt, k_bop_tf, k_bop_ft, k_bop_ff, z_attr, k_attr_s, z_sub, k_sub_s, k_sub2_s, z_slice, k_slice_s, k_slice2_s, k_slice3_s, z_rev, k_rev_s, z_list, z_tup, k_list0, k_list1, k_list6, k_tup2, k_tup3, k_tup4, z_call, k_call_s, z_new, k_new_s, k_new2_s, z_bi, k_bi_s, z_meth, k_meth_s, k_meth2_s, k_meth3_s, lst_str, z_comp, z_nil, z_cons, k_cons_s, k_cons2_s, k_tst_s, c_one, k_one_s, c_cons, k_cc_s, k_cc2_t, k_cc2_f, t_val, k_val_s, t_not, k_tnot_s, t_bop, k_tbop_tt, k_tbop_tf, k_tbop_ft, k_tbop_ff, t_cmp, k_tcmp_s, i_nil, b_add, b_sub, b_and, b_or, b_xor, u_add, u_sub, u_or, u_xor, m_eq, m_ne, m_lt, m_le, m_gt, m_ge, m_seq, m_sne, v_bool, v_int, Bool.not_true, Bool.not_false, Option.join_some, g0, g1, g2, g3, g4, g5, g6, g7, g8, g9, g10, g11, s0, s1, s2, s3, s4, s5, s6, s7, s8, s9, s10, s11, y_asgS, k_asgS_s, k_asgS2_s, k_asgS3_s, y_augS, k_augS_s, k_augS2_s, k_augS3_s, k_augS4_s, k_augS5_s, y_augD, k_augD_s, k_augD2_s, k_augD3_s, k_augD4_s, z_dsub, k_dsub_s, f_law_type, d27, c1, hset, e27, e26, bl, dc, c2, sb, bm]
    exact ⟨_, rfl⟩
  · obtain ⟨j, j1, j2⟩ := fmod_nat (n : Int) 20 (by decide)
    obtain ⟨z, hz⟩ := tab_at ⟨j, j1⟩
    obtain ⟨v, v1, v2⟩ := fmod_nat z m hm
    have bm := b_mod σ1 (x := z) (m := (m : Int)) (by lia)
    rw [v2] at bm
    have b20 : binV .Mod (.int (n : Int)) (.int 20) σ1 = some (.int (j : Int), σ1) := by
      have := b_mod σ1 (x := (n : Int)) (m := 20) (by decide)
      rw [this]
      exact congrArg (fun q => some (V.int q, σ1)) j2
    have kt := k_tab_s σ1 (k := j) (z := z) ⟨by lia, hz⟩
    have dc : decide (((n + 1 : Nat) : Int) ≤ (xs.length : Int)) = false := decide_eq_false (by lia)
    refine ⟨v, v1, ?_, H'⟩
    refine run_ret' (fn := f_law_type) rfl rfl ?_
    show ∃ env', exSs _ _ f_law_type.body ([some (.obj 1), some (.int m)]) σ = _
    generalize runF initOf tbl d = F at *
    simp only [y_nil, y_cons, k_seq_n, k_seq_r, k_seq_c, y_asg, k_asg_s, k_end_s, y_asgA, k_asgA_s, k_asgA2_s, y_unp, k_unp_s, k_unp2_s, k_unp3_s, y_unpA, k_unpA_s, k_unpA2_s, y_aug, k_aug_s, k_aug2_s, y_augA, k_augA_s, k_augA2_s, k_augA3_s, k_augA4_s, y_ife, k_ife_t, k_ife_f, y_for, y_forT, k_for_s, y_ret, k_ret_s, y_exp, k_exp_s, y_cont, y_try, k_var_s, z_cst, z_var, z_tab, z_bin, k_bin_s, k_bin2_s, z_neg, k_neg_s, z_inv, k_inv_s, z_not, k_not_b, z_ife, k_ifE_t, k_ifE_f, k_bool_s, z_cmp, k_cmp_s, z_bop, k_bop_tt, k_bop_tf, k_bop_ft, k_bop_ff, z_attr, k_attr_s, z_sub, k_sub_s, k_sub2_s, z_slice, k_slice_s, k_slice2_s, k_slice3_s, z_rev, k_rev_s, z_list, z_tup, k_list0, k_list1, k_list6, k_tup2, k_tup3, k_tup4, z_call, k_call_s, z_new, k_new_s, k_new2_s, z_bi, k_bi_s, z_meth, k_meth_s, k_meth2_s, k_meth3_s, lst_str, z_comp, z_nil, z_cons, k_cons_s, k_cons2_s, k_tst_s, c_one, k_one_s, c_cons, k_cc_s, k_cc2_t, k_cc2_f, t_val, k_val_s, t_not, k_tnot_s, t_bop, k_tbop_tt, k_tbop_tf, k_tbop_ft, k_tbop_ff, t_cmp, k_tcmp_s, i_nil, b_add, b_sub, b_and, b_or, b_xor, u_add, u_sub, u_or, u_xor, m_eq, m_ne, m_lt, m_le, m_gt, m_ge, m_seq, m_sne, v_bool, v_int, Bool.not_true, Bool.not_false, Option.join_some, g0, g1, g2, g3, g4, g5, g6, g7, g8, g9, g10, g11, s0, s1, s2, s3, s4, s5, s6, s7, s8, s9, s10, s11, y_asgS, k_asgS_s, k_asgS2_s, k_asgS3_s, y_augS, k_augS_s, k_augS2_s, k_augS3_s, k_augS4_s, k_augS5_s, y_augD, k_augD_s, k_augD2_s, k_augD3_s, k_augD4_s, z_dsub, k_dsub_s, f_law_type, d27, c1, hset, e27, e26, bl, dc, c2, b20, kt, bm]
    exact ⟨_, rfl⟩
end Mine
namespace Mine
open PySem
section
variable {st : V → LE → Option LE} {body : LE → AH → Option (Fl × LE × AH)} {o : V}
theorem forN_inv (Inv : Nat → LE → AH → Prop) (N : Nat) (hit : ∀ i env σ, i < N → Inv i env σ → ∃ v, itemAt o i σ = some (some v) ∧ ∃ env1, st v env = some env1 ∧ ∃ f env2 σ2, (f = .next ∨ f = .cont) ∧ body env1 σ = some (f, env2, σ2) ∧ Inv (i + 1) env2 σ2)
    (hend : ∀ env σ, Inv N env σ → itemAt o N σ = some none) : ∀ (fuel i : Nat) (env : LE) (σ : AH), i + fuel = N + 1 → i ≤ N → Inv i env σ → ∃ env' σ', forN st body o fuel i env σ = some (.next, env', σ') ∧ Inv N env' σ'
  | 0, i, env, σ, h, hl, I => by lia
  | fuel + 1, i, env, σ, h, hl, I => by
    by_cases hi : i < N
    · obtain ⟨v, e1, env1, e2, f, env2, σ2, hf, e3, I2⟩ := hit i env σ hi I
      obtain ⟨env', σ', e4, I4⟩ := forN_inv Inv N hit hend fuel (i + 1) env2 σ2 (by lia) (by lia) I2
      refine ⟨env', σ', ?_, I4⟩
      show (itemAt o i σ).bind _ = _
      rw [e1]
      show (st v env).bind _ = _
      rw [e2]
      show (body env1 σ).bind _ = _
      rw [e3]
      rcases hf with rfl | rfl <;> exact e4
    · have : i = N := by lia
      subst this
      refine ⟨env, σ, ?_, I⟩
      show (itemAt o i σ).bind _ = _
      rw [hend env σ I]; rfl
theorem forV_range (a n : Nat) (ha : a < 2 ^ 19) (hn : n < 2 ^ 19) (Inv : Nat → LE → AH → Prop)
    (hit : ∀ i env σ, i < n → Inv i env σ → ∃ env1, st (.int ((a + i : Nat) : Int)) env = some env1 ∧ ∃ f env2 σ2, (f = .next ∨ f = .cont) ∧ body env1 σ = some (f, env2, σ2) ∧ Inv (i + 1) env2 σ2) (env : LE) (σ : AH) (I : Inv 0 env σ) :
    ∃ env' σ', forV st body (.range (a : Int) ((a + n : Nat) : Int) 1) env σ = some (.next, env', σ') ∧ Inv n env' σ' := by
  have ok : rangeOk (a : Int) ((a + n : Nat) : Int) 1 = true := by
    exact and_i (and_i (decide_eq_true (by lia)) (decide_eq_true (by lia))) (decide_eq_true (.inl rfl))
  have hN : rangeN (a : Int) ((a + n : Nat) : Int) 1 = n := by unfold rangeN; rw [if_pos rfl]; lia
  unfold forV
  have hl : lenIt (.range (a : Int) ((a + n : Nat) : Int) 1) σ = some n := by rw [ln_r ok, hN]
  rw [hl]
  refine forN_inv Inv n (fun i env σ hi I => ?_) (fun env σ I => ?_) (n + 1) 0 env σ (by lia) (by lia) I
  · refine ⟨.int ((a + i : Nat) : Int), ?_, hit i env σ hi I⟩
    rw [it_r ok, hN, if_pos hi, Int.mul_one]
    rw [show (a : Int) + (i : Int) = ((a + i : Nat) : Int) by lia]
  · rw [it_r ok, hN, if_neg (Nat.lt_irrefl _)]
theorem forV_list {m : Nat} {vs : List V} (Inv : Nat → LE → AH → Prop) (hl : ∀ i env σ, Inv i env σ → listAt σ m = some vs)
    (hit : ∀ i env σ v, vs[i]? = some v → Inv i env σ → ∃ env1, st v env = some env1 ∧ ∃ f env2 σ2, (f = .next ∨ f = .cont) ∧ body env1 σ = some (f, env2, σ2) ∧ Inv (i + 1) env2 σ2) (env : LE) (σ : AH) (I : Inv 0 env σ) :
    ∃ env' σ', forV st body (.obj m) env σ = some (.next, env', σ') ∧ Inv vs.length env' σ' := by
  unfold forV
  have h0 : lenIt (.obj m) σ = some vs.length := by exact ln_l (hl 0 env σ I)
  rw [h0]
  refine forN_inv Inv vs.length (fun i env σ hi I => ?_) (fun env σ I => ?_) (vs.length + 1) 0 env σ (by lia) (by lia) I
  · refine ⟨vs[i], ?_, hit i env σ _ (List.getElem?_eq_getElem hi) I⟩
    rw [it_l (hl i env σ I), List.getElem?_eq_getElem hi]
  · rw [it_l (hl _ env σ I), List.getElem?_eq_none (Nat.le_refl _)]
theorem forV_str {x : List Nat} (ha : asciiL x = true) (Inv : Nat → LE → AH → Prop)
    (hit : ∀ i env σ c, x[i]? = some c → Inv i env σ → ∃ env1, st (.str [c]) env = some env1 ∧ ∃ f env2 σ2, (f = .next ∨ f = .cont) ∧ body env1 σ = some (f, env2, σ2) ∧ Inv (i + 1) env2 σ2) (env : LE) (σ : AH) (I : Inv 0 env σ) :
    ∃ env' σ', forV st body (.str x) env σ = some (.next, env', σ') ∧ Inv x.length env' σ' := by
  unfold forV
  have h0 : lenIt (.str x) σ = some x.length := by exact ln_s ha
  rw [h0]
  refine forN_inv Inv x.length (fun i env σ hi I => ?_) (fun env σ I => ?_) (x.length + 1) 0 env σ (by lia) (by lia) I
  · refine ⟨.str [x[i]], ?_, hit i env σ _ (List.getElem?_eq_getElem hi) I⟩
    rw [it_s ha, List.getElem?_eq_getElem hi]; rfl
  · rw [it_s ha, List.getElem?_eq_none (Nat.le_refl _)]; rfl
end
end Mine
namespace Mine
open PySem
noncomputable def skey (side rights : Int) : Int := if side = 1 then Builtin.bitXor (177147 * rights) 96889010407 else 177147 * rights
theorem rights_at : ∀ r : Fin 16, ∃ vs, base[17]? = some (.list vs) ∧ vs[r.val]? = some (.int (177147 * (r.val : Int))) := by
  have key : ∀ r : Fin 16, (match (base[17]? : Option AO) with | some (AO.list vs) => (match (vs[r.val]? : Option V) with | some (V.int z) => z == 177147 * (r.val : Int) | _ => false) | _ => false) = true := by decide +kernel
  intro r
  have h := key r
  split at h
  · rename_i vs e
    split at h
    · rename_i z e2
      rw [beq_iff_eq] at h
      exact ⟨vs, e, by rw [e2, h]⟩
    · cases h
  · cases h
theorem state_key_ok (d : Nat) {σ : AH} {p : Nat} {P : Pz} (G : Geo σ) (H : PosAt σ p P) {r : Nat} (hr : P.rights = r) (h16 : r < 16) (hs : P.side = 0 ∨ P.side = 1) : runF initOf tbl (d + 1) 22 [.obj p] σ = some (.int (skey P.side P.rights), σ) := by
  have g20 : σ[20]? = some (.inst 1 [(14, .obj 17), (15, .obj 18), (16, .obj 19), (17, .int 96889010407)]) := G 18 (by decide)
  have g19 : σ[19]? = base[17]? := G 17 (by decide)
  obtain ⟨vs, e1, e2⟩ := rights_at ⟨r, h16⟩
  rw [e1] at g19
  have dm : decide ((0 : Int) ≤ -1) = false := by decide
  have hobj := H.obj
  unfold posFs at hobj
  rw [hr] at hobj ⊢
  have b19 := attr_i (a := 19) σ hobj rfl
  have b16 := attr_i (a := 16) σ hobj rfl
  have b15 := attr_i (a := 15) σ hobj rfl
  have b17 := attr_i (a := 17) σ hobj rfl
  have z16 := attr_i (a := 16) σ g20 rfl
  have z17 := attr_i (a := 17) σ g20 rfl
  have sb := sub_l σ g19 (i := r) e2 (by lia)
  refine run_ret' (fn := f_state_key) rfl rfl ?_
  show ∃ env', exSs _ _ f_state_key.body ([some (.obj p), none, none]) σ = _
  generalize runF initOf tbl d = F at *
  unfold skey
  rcases hs with hs | hs
  · have dd : decide (P.side = 1) = false := decide_eq_false (by lia)
    rw [if_neg (by lia)]
    simp only [y_nil, y_cons, k_seq_n, k_seq_r, k_seq_c, y_asg, k_asg_s, k_end_s, y_asgA, k_asgA_s, k_asgA2_s, y_unp, k_unp_s, k_unp2_s, k_unp3_s, y_unpA, k_unpA_s, k_unpA2_s, y_aug, k_aug_s, k_aug2_s, y_augA, k_augA_s, k_augA2_s, k_augA3_s, k_augA4_s, y_ife, k_ife_t, k_ife_f, y_for, y_forT, k_for_s, y_ret, k_ret_s, y_exp, k_exp_s, y_cont, y_try, k_var_s, z_cst, z_var, z_tab, z_bin, k_bin_s, k_bin2_s, z_neg, k_neg_s, z_inv, k_inv_s, z_not, k_not_b, z_ife, k_ifE_t, k_ifE_f, k_bool_s, z_cmp, k_cmp_s, z_bop, k_bop_tt, k_bop_tf, k_bop_ft, k_bop_ff, z_attr, k_attr_s, z_sub, k_sub_s, k_sub2_s, z_slice, k_slice_s, k_slice2_s, k_slice3_s, z_rev, k_rev_s, z_list, z_tup, k_list0, k_list1, k_list6, k_tup2, k_tup3, k_tup4, z_call, k_call_s, z_new, k_new_s, k_new2_s, z_bi, k_bi_s, z_meth, k_meth_s, k_meth2_s, k_meth3_s, lst_str, z_comp, z_nil, z_cons, k_cons_s, k_cons2_s, k_tst_s, c_one, k_one_s, c_cons, k_cc_s, k_cc2_t, k_cc2_f, t_val, k_val_s, t_not, k_tnot_s, t_bop, k_tbop_tt, k_tbop_tf, k_tbop_ft, k_tbop_ff, t_cmp, k_tcmp_s, i_nil, b_add, b_sub, b_and, b_or, b_xor, u_add, u_sub, u_or, u_xor, m_eq, m_ne, m_lt, m_le, m_gt, m_ge, m_seq, m_sne, v_bool, v_int, Bool.not_true, Bool.not_false, Option.join_some, g0, g1, g2, g3, g4, g5, g6, g7, g8, g9, g10, g11, s0, s1, s2, s3, s4, s5, s6, s7, s8, s9, s10, s11, y_asgS, k_asgS_s, k_asgS2_s, k_asgS3_s, y_augS, k_augS_s, k_augS2_s, k_augS3_s, k_augS4_s, k_augS5_s, y_augD, k_augD_s, k_augD2_s, k_augD3_s, k_augD4_s, z_dsub, k_dsub_s, f_state_key, b19, b16, b15, b17, z16, z17, sb, dm, dd]
    exact ⟨_, rfl⟩
  · have dd : decide (P.side = 1) = true := decide_eq_true (by lia)
    rw [if_pos hs]
    simp only [y_nil, y_cons, k_seq_n, k_seq_r, k_seq_c, y_asg, k_asg_s, k_end_s, y_asgA, k_asgA_s, k_asgA2_s, y_unp, k_unp_s, k_unp2_s, k_unp3_s, y_unpA, k_unpA_s, k_unpA2_s, y_aug, k_aug_s, k_aug2_s, y_augA, k_augA_s, k_augA2_s, k_augA3_s, k_augA4_s, y_ife, k_ife_t, k_ife_f, y_for, y_forT, k_for_s, y_ret, k_ret_s, y_exp, k_exp_s, y_cont, y_try, k_var_s, z_cst, z_var, z_tab, z_bin, k_bin_s, k_bin2_s, z_neg, k_neg_s, z_inv, k_inv_s, z_not, k_not_b, z_ife, k_ifE_t, k_ifE_f, k_bool_s, z_cmp, k_cmp_s, z_bop, k_bop_tt, k_bop_tf, k_bop_ft, k_bop_ff, z_attr, k_attr_s, z_sub, k_sub_s, k_sub2_s, z_slice, k_slice_s, k_slice2_s, k_slice3_s, z_rev, k_rev_s, z_list, z_tup, k_list0, k_list1, k_list6, k_tup2, k_tup3, k_tup4, z_call, k_call_s, z_new, k_new_s, k_new2_s, z_bi, k_bi_s, z_meth, k_meth_s, k_meth2_s, k_meth3_s, lst_str, z_comp, z_nil, z_cons, k_cons_s, k_cons2_s, k_tst_s, c_one, k_one_s, c_cons, k_cc_s, k_cc2_t, k_cc2_f, t_val, k_val_s, t_not, k_tnot_s, t_bop, k_tbop_tt, k_tbop_tf, k_tbop_ft, k_tbop_ff, t_cmp, k_tcmp_s, i_nil, b_add, b_sub, b_and, b_or, b_xor, u_add, u_sub, u_or, u_xor, m_eq, m_ne, m_lt, m_le, m_gt, m_ge, m_seq, m_sne, v_bool, v_int, Bool.not_true, Bool.not_false, Option.join_some, g0, g1, g2, g3, g4, g5, g6, g7, g8, g9, g10, g11, s0, s1, s2, s3, s4, s5, s6, s7, s8, s9, s10, s11, y_asgS, k_asgS_s, k_asgS2_s, k_asgS3_s, y_augS, k_augS_s, k_augS2_s, k_augS3_s, k_augS4_s, k_augS5_s, y_augD, k_augD_s, k_augD2_s, k_augD3_s, k_augD4_s, z_dsub, k_dsub_s, f_state_key, b19, b16, b15, b17, z16, z17, sb, dm, dd]
    exact ⟨_, rfl⟩
end Mine
namespace Mine
open PySem
noncomputable def zobOf (v s : Nat) : Int := match base[v]? with
  | some (.list vs) => (match vs[s]? with
    | some (.int z) => z
    | _ => 0)
  | _ => 0
noncomputable def fkN (b : List Int) (k0 : Int) : Nat → Int
  | 0 => k0
  | i + 1 => match b[i]? with
    | some x => if x = 0 then fkN b k0 i else Builtin.bitXor (fkN b k0 i) (zobOf x.toNat i)
    | none => fkN b k0 i
noncomputable def fkey (b : List Int) (side rights : Int) : Int := fkN b (skey side rights) 28
theorem zob_is {v s : Nat} (hv : v < 15) (hs : s < 28) : ∃ r vs, base[15]? = some (.list r) ∧ r[v]? = some (.obj (v + 2)) ∧ base[v]? = some (.list vs) ∧ vs[s]? = some (.int (zobOf v s)) := by
  obtain ⟨z, r, vs, h1, h2, h3, h4⟩ := zob_at v s hv hs
  refine ⟨r, vs, h1, h2, h3, ?_⟩
  unfold zobOf
  rw [h3]; dsimp only; rw [h4]
theorem full_key_ok (d : Nat) {σ : AH} {p : Nat} {P : Pz} (G : Geo σ) (H : PosAt σ p P) {r : Nat} (hr : P.rights = r) (h16 : r < 16) (hs : P.side = 0 ∨ P.side = 1) (hb : ∀ x ∈ P.b, 0 ≤ x ∧ x < 15) : runF initOf tbl (d + 2) 23 [.obj p] σ = some (.int (fkey P.b P.side P.rights), σ) := by
  have g20 : σ[20]? = some (.inst 1 [(14, .obj 17), (15, .obj 18), (16, .obj 19), (17, .int 96889010407)]) := G 18 (by decide)
  have g17 : σ[17]? = base[15]? := G 15 (by decide)
  have sk := state_key_ok d G H hr h16 hs
  have hobj := H.obj
  unfold posFs at hobj
  refine run_ret' (fn := f_full_key) rfl rfl ?_
  show ∃ env', exSs _ _ f_full_key.body ([some (.obj p), none, none, none, none]) σ = _
  have hlist : listAt σ (p + 2) = some (P.b.map .int) := by delta listAt; rw [H.board]
  have loop := forV_list (m := p + 2) (vs := P.b.map .int) (st := stK 4)
    (body := bd (runF initOf tbl (d + 1)) (.cons (.ife (.cmp (.var 4) (.one .NotEq (.cst (.int 0)))) (.cons (.aug 2 .BitXor (.sub (.sub (.var 1) (.var 4)) (.var 3))) .nil) .nil) (.cons (.aug 3 .Add (.cst (.int 1))) .nil)))
    (fun i env σ' => σ' = σ ∧ ∃ x4, env = [some (.obj p), some (.obj 17), some (.int (fkN P.b (skey P.side P.rights) i)), some (.int i), x4])
    (fun i env σ' h => by rw [h.1]; exact hlist)
    (fun i env σ' v hv h => by
      obtain ⟨rfl, x4, rfl⟩ := h
      rw [List.getElem?_map] at hv
      obtain ⟨x, hx, rfl⟩ := Option.map_eq_some_iff.mp hv
      have hi : i < 28 := by rw [← H.len]; exact (List.getElem?_eq_some_iff.mp hx).1
      obtain ⟨x0, x15⟩ := hb x (List.mem_of_getElem? hx)
      have fs : fkN P.b (skey P.side P.rights) (i + 1) = if x = 0 then fkN P.b (skey P.side P.rights) i else Builtin.bitXor (fkN P.b (skey P.side P.rights) i) (zobOf x.toNat i) := by rw [fkN, hx]
      refine ⟨_, rfl, .next, ?_⟩
      have ci : (i : Int) + 1 = ((i + 1 : Nat) : Int) := by lia
      by_cases hx0 : x = 0
      · refine ⟨[some (.obj p), some (.obj 17), some (.int (fkN P.b (skey P.side P.rights) i)), some (.int ((i + 1 : Nat) : Int)), some (.int x)], σ', .inl rfl, ?_, rfl, some (.int x), by rw [fs, if_pos hx0]⟩
        have hd : decide (x = 0) = true := decide_eq_true hx0
        generalize runF initOf tbl (d + 1) = F at *
        simp only [y_nil, y_cons, k_seq_n, k_seq_r, k_seq_c, y_asg, k_asg_s, k_end_s, y_asgA, k_asgA_s, k_asgA2_s, y_unp, k_unp_s, k_unp2_s, k_unp3_s, y_unpA, k_unpA_s, k_unpA2_s, y_aug, k_aug_s, k_aug2_s, y_augA, k_augA_s, k_augA2_s, k_augA3_s, k_augA4_s, y_ife, k_ife_t, k_ife_f, y_for, y_forT, k_for_s, y_ret, k_ret_s, y_exp, k_exp_s, y_cont, y_try, k_var_s, z_cst, z_var, z_tab, z_bin, k_bin_s, k_bin2_s, z_neg, k_neg_s, z_inv, k_inv_s, z_not, k_not_b, z_ife, k_ifE_t, k_ifE_f, k_bool_s, z_cmp, k_cmp_s, z_bop, k_bop_tt, k_bop_tf, k_bop_ft, k_bop_ff, z_attr, k_attr_s, z_sub, k_sub_s, k_sub2_s, z_slice, k_slice_s, k_slice2_s, k_slice3_s, z_rev, k_rev_s, z_list, z_tup, k_list0, k_list1, k_list6, k_tup2, k_tup3, k_tup4, z_call, k_call_s, z_new, k_new_s, k_new2_s, z_bi, k_bi_s, z_meth, k_meth_s, k_meth2_s, k_meth3_s, lst_str, z_comp, z_nil, z_cons, k_cons_s, k_cons2_s, k_tst_s, c_one, k_one_s, c_cons, k_cc_s, k_cc2_t, k_cc2_f, t_val, k_val_s, t_not, k_tnot_s, t_bop, k_tbop_tt, k_tbop_tf, k_tbop_ft, k_tbop_ff, t_cmp, k_tcmp_s, i_nil, b_add, b_sub, b_and, b_or, b_xor, u_add, u_sub, u_or, u_xor, m_eq, m_ne, m_lt, m_le, m_gt, m_ge, m_seq, m_sne, v_bool, v_int, Bool.not_true, Bool.not_false, Option.join_some, g0, g1, g2, g3, g4, g5, g6, g7, g8, g9, g10, g11, s0, s1, s2, s3, s4, s5, s6, s7, s8, s9, s10, s11, y_asgS, k_asgS_s, k_asgS2_s, k_asgS3_s, y_augS, k_augS_s, k_augS2_s, k_augS3_s, k_augS4_s, k_augS5_s, y_augD, k_augD_s, k_augD2_s, k_augD3_s, k_augD4_s, z_dsub, k_dsub_s, bd, hd, ci]
      · refine ⟨[some (.obj p), some (.obj 17), some (.int (fkN P.b (skey P.side P.rights) (i + 1))), some (.int ((i + 1 : Nat) : Int)), some (.int x)], σ', .inl rfl, ?_, rfl, some (.int x), rfl⟩
        have hd : decide (x = 0) = false := decide_eq_false hx0
        obtain ⟨rr, vs, z1, z2, z3, z4⟩ := zob_is (v := x.toNat) (s := i) (by lia) hi
        rw [z1] at g17
        have gv : σ'[x.toNat + 2]? = some (.list vs) := (G x.toNat (by lia)).trans z3
        have u1 := sub_l σ' g17 (i := x.toNat) z2 (by lia)
        rw [Int.toNat_of_nonneg x0] at u1
        have u2 := sub_l σ' gv (i := i) z4 (by lia)
        rw [fs, if_neg hx0]
        generalize runF initOf tbl (d + 1) = F at *
        simp only [y_nil, y_cons, k_seq_n, k_seq_r, k_seq_c, y_asg, k_asg_s, k_end_s, y_asgA, k_asgA_s, k_asgA2_s, y_unp, k_unp_s, k_unp2_s, k_unp3_s, y_unpA, k_unpA_s, k_unpA2_s, y_aug, k_aug_s, k_aug2_s, y_augA, k_augA_s, k_augA2_s, k_augA3_s, k_augA4_s, y_ife, k_ife_t, k_ife_f, y_for, y_forT, k_for_s, y_ret, k_ret_s, y_exp, k_exp_s, y_cont, y_try, k_var_s, z_cst, z_var, z_tab, z_bin, k_bin_s, k_bin2_s, z_neg, k_neg_s, z_inv, k_inv_s, z_not, k_not_b, z_ife, k_ifE_t, k_ifE_f, k_bool_s, z_cmp, k_cmp_s, z_bop, k_bop_tt, k_bop_tf, k_bop_ft, k_bop_ff, z_attr, k_attr_s, z_sub, k_sub_s, k_sub2_s, z_slice, k_slice_s, k_slice2_s, k_slice3_s, z_rev, k_rev_s, z_list, z_tup, k_list0, k_list1, k_list6, k_tup2, k_tup3, k_tup4, z_call, k_call_s, z_new, k_new_s, k_new2_s, z_bi, k_bi_s, z_meth, k_meth_s, k_meth2_s, k_meth3_s, lst_str, z_comp, z_nil, z_cons, k_cons_s, k_cons2_s, k_tst_s, c_one, k_one_s, c_cons, k_cc_s, k_cc2_t, k_cc2_f, t_val, k_val_s, t_not, k_tnot_s, t_bop, k_tbop_tt, k_tbop_tf, k_tbop_ft, k_tbop_ff, t_cmp, k_tcmp_s, i_nil, b_add, b_sub, b_and, b_or, b_xor, u_add, u_sub, u_or, u_xor, m_eq, m_ne, m_lt, m_le, m_gt, m_ge, m_seq, m_sne, v_bool, v_int, Bool.not_true, Bool.not_false, Option.join_some, g0, g1, g2, g3, g4, g5, g6, g7, g8, g9, g10, g11, s0, s1, s2, s3, s4, s5, s6, s7, s8, s9, s10, s11, y_asgS, k_asgS_s, k_asgS2_s, k_asgS3_s, y_augS, k_augS_s, k_augS2_s, k_augS3_s, k_augS4_s, k_augS5_s, y_augD, k_augD_s, k_augD2_s, k_augD3_s, k_augD4_s, z_dsub, k_dsub_s, bd, hd, ci, u1, u2])
    [some (.obj p), some (.obj 17), some (.int (skey P.side P.rights)), some (.int 0), none] σ ⟨rfl, none, rfl⟩
  obtain ⟨env', σ', e, hσ, x4, he⟩ := loop
  subst hσ; subst he
  rw [List.length_map, H.len] at e
  have b19 := attr_i (a := 19) σ' hobj rfl
  have b20 := attr_i (a := 20) σ' hobj rfl
  have b14 := attr_i (a := 14) σ' g20 rfl
  generalize runF initOf tbl (d + 1) = F at *
  simp only [y_nil, y_cons, k_seq_n, k_seq_r, k_seq_c, y_asg, k_asg_s, k_end_s, y_asgA, k_asgA_s, k_asgA2_s, y_unp, k_unp_s, k_unp2_s, k_unp3_s, y_unpA, k_unpA_s, k_unpA2_s, y_aug, k_aug_s, k_aug2_s, y_augA, k_augA_s, k_augA2_s, k_augA3_s, k_augA4_s, y_ife, k_ife_t, k_ife_f, y_for, y_forT, k_for_s, y_ret, k_ret_s, y_exp, k_exp_s, y_cont, y_try, k_var_s, z_cst, z_var, z_tab, z_bin, k_bin_s, k_bin2_s, z_neg, k_neg_s, z_inv, k_inv_s, z_not, k_not_b, z_ife, k_ifE_t, k_ifE_f, k_bool_s, z_cmp, k_cmp_s, z_bop, k_bop_tt, k_bop_tf, k_bop_ft, k_bop_ff, z_attr, k_attr_s, z_sub, k_sub_s, k_sub2_s, z_slice, k_slice_s, k_slice2_s, k_slice3_s, z_rev, k_rev_s, z_list, z_tup, k_list0, k_list1, k_list6, k_tup2, k_tup3, k_tup4, z_call, k_call_s, z_new, k_new_s, k_new2_s, z_bi, k_bi_s, z_meth, k_meth_s, k_meth2_s, k_meth3_s, lst_str, z_comp, z_nil, z_cons, k_cons_s, k_cons2_s, k_tst_s, c_one, k_one_s, c_cons, k_cc_s, k_cc2_t, k_cc2_f, t_val, k_val_s, t_not, k_tnot_s, t_bop, k_tbop_tt, k_tbop_tf, k_tbop_ft, k_tbop_ff, t_cmp, k_tcmp_s, i_nil, b_add, b_sub, b_and, b_or, b_xor, u_add, u_sub, u_or, u_xor, m_eq, m_ne, m_lt, m_le, m_gt, m_ge, m_seq, m_sne, v_bool, v_int, Bool.not_true, Bool.not_false, Option.join_some, g0, g1, g2, g3, g4, g5, g6, g7, g8, g9, g10, g11, s0, s1, s2, s3, s4, s5, s6, s7, s8, s9, s10, s11, y_asgS, k_asgS_s, k_asgS2_s, k_asgS3_s, y_augS, k_augS_s, k_augS2_s, k_augS3_s, k_augS4_s, k_augS5_s, y_augD, k_augD_s, k_augD2_s, k_augD3_s, k_augD4_s, z_dsub, k_dsub_s, f_full_key, b19, b20, b14, sk, e]
  exact ⟨_, rfl⟩
end Mine
namespace Mine
open PySem
theorem ap_get (s l : AH) (i : Nat) : (s ++ l)[s.length + i]? = l[i]? := by
  rw [List.getElem?_append_right (by lia)]; congr 1; lia
theorem ap_get0 (s l : AH) : (s ++ l)[s.length]? = l[0]? := ap_get s l 0
theorem ap_set (s l : AH) (i : Nat) (x : AO) : (s ++ l).set (s.length + i) x = s ++ l.set i x := by
  rw [List.set_append_right _ _ (by lia)]; congr 2; lia
theorem ap_set0 (s l : AH) (x : AO) : (s ++ l).set s.length x = s ++ l.set 0 x := ap_set s l 0 x
noncomputable def blank (n : Nat) : Pz := ⟨List.replicate 28 0, 0, 0, 0, 1, 0⟩
noncomputable def newPos (n : Nat) : AH := [.inst 2 (posFs n (blank n)), .list [.int 0], .list (List.replicate 28 (.int 0)), .list [.int 0], .list (List.replicate 7 (.int 0)), .list [.int 0, .int 0], .list []]
theorem seq_n {F : FT} {st : IS} {r : ISs} {env env' : LE} {σ σ' : AH} (e : exS initOf F st env σ = some (.next, env', σ')) : exSs initOf F (.cons st r) env σ = exSs initOf F r env' σ' := by
  show (exS initOf F st env σ).bind _ = _
  rw [e]; rfl
theorem new_at {F : FT} {s : AH} {fs fs' : List (Nat × V)} {l l' : AH} {e : IE} {a : Nat} {v : V} {y z : Option V} {env : LE} (hx : env = [some (.obj s.length), y, z])
    (h : evE initOf F e env (s ++ .inst 2 fs :: l) = some (v, s ++ .inst 2 fs :: l')) (hl : decide (fs.length < 100) = true) (hp : putF a v fs = fs') :
    exS initOf F (.asgA (.var 0) a e) env (s ++ .inst 2 fs :: l) = some (.next, env, s ++ .inst 2 fs' :: l') := by
  subst hx; subst hp
  show (evE initOf F e _ _).bind _ = _
  rw [h]
  show (setAttrV (.obj s.length) a v (s ++ .inst 2 fs :: l')).bind _ = _
  rw [set_fs _ v (by rw [ap_get0]; rfl) (of_decide_eq_true hl), ap_set0]; rfl
theorem new_l {F : FT} {s l : AH} {o : AO} {vs : List V} {es : IEs} {env : LE} {n : Nat} (h : ∀ σ, evEs initOf F es env σ = some (vs, σ)) (hl : vs.length ≤ 1000) (hn : s.length + (l.length + 1) = n) :
    evE initOf F (.list es) env (s ++ o :: l) = some (.obj n, s ++ o :: (l ++ [.list vs])) := by
  show (evEs initOf F es env _).bind _ = _
  rw [h]
  show (if vs.length ≤ 1000 then some (V.obj (s ++ o :: l).length, (s ++ o :: l) ++ [.list vs]) else none) = _
  rw [if_pos hl, List.append_assoc, List.length_append, List.length_cons, hn]; rfl
theorem new_m {F : FT} {s l : AH} {o : AO} {g : IE} {k : Int} {ws : List V} {env : LE} {n : Nat} (h : ∀ l, evE initOf F g env (s ++ o :: l) = some (.int k, s ++ o :: l)) (hk : -1000 ≤ k ∧ k ≤ 1000) (hn : s.length + (l.length + 1) + 1 = n) (hw : repL [.int 0] k.toNat = ws) :
    evE initOf F (.bin .Mult (.list (.cons (.cst (.int 0)) .nil)) g) env (s ++ o :: l) = some (.obj n, s ++ o :: (l ++ [.list [.int 0], .list ws])) := by
  subst hw
  show (evE initOf F (.list (.cons (.cst (.int 0)) .nil)) env _).bind _ = _
  rw [new_l (vs := [.int 0]) (n := s.length + (l.length + 1)) (fun _ => rfl) (by decide) rfl]
  show (evE initOf F g env _).bind _ = _
  rw [h]
  show binV .Mult (.obj (s.length + (l.length + 1))) (.int k) _ = _
  have q : (s ++ o :: (l ++ [.list [.int 0]]))[s.length + (l.length + 1)]? = some (.list [.int 0]) := by
    rw [ap_get, List.getElem?_cons_succ, List.getElem?_append_right (Nat.le_refl _), Nat.sub_self]; rfl
  delta binV
  dsimp only
  rw [q]
  dsimp only
  rw [if_pos ⟨hk.1, hk.2, by decide⟩, List.append_assoc, List.length_append, List.length_cons, List.length_append, List.cons_append, List.append_assoc]
  rw [show s.length + (l.length + [AO.list [V.int 0]].length + 1) = n from hn]; rfl
theorem position_ok (d : Nat) {s : AH} (G : Geo s) (hl : 52 ≤ s.length) : runF initOf tbl (d + 1) 24 [.obj s.length, .obj 21, .obj 20] (s ++ [.inst 2 []]) = some (.none, s ++ newPos s.length) := by
  have g21 : ∀ l : AH, (s ++ l)[21]? = base[19]? := fun l => by
    rw [List.getElem?_append_left (by lia)]; exact G 19 (by decide)
  have e19 : ∃ fs, base[19]? = some (.inst 0 fs) ∧ getF 2 fs = some (.int 28) := ⟨_, rfl, rfl⟩
  obtain ⟨fs, e1, e2⟩ := e19
  rw [e1] at g21
  refine run_next' (fn := f_Position_init) rfl rfl ?_
  show ∃ env', exSs _ _ f_Position_init.body ([some (.obj s.length), some (.obj 21), some (.obj 20)]) (s ++ [.inst 2 []]) = _
  generalize runF initOf tbl d = F
  refine ⟨[some (.obj s.length), some (.obj 21), some (.obj 20)], ?_⟩
  refine (seq_n (new_at rfl rfl rfl rfl)).trans ?_
  refine (seq_n (new_at rfl rfl rfl rfl)).trans ?_
  refine (seq_n (new_at rfl (new_m (n := s.length + 2) (ws := List.replicate 28 (.int 0)) (k := 28) (fun l => ?_) (by decide) rfl rfl) rfl rfl)).trans ?_
  · show (attrV (.obj 21) 2 _).map _ = _
    rw [attr_i _ (g21 _) e2]; rfl
  refine (seq_n (new_at rfl (new_m (n := s.length + 4) (ws := List.replicate 7 (.int 0)) (k := 7) (fun l => rfl) (by decide) rfl rfl) rfl rfl)).trans ?_
  refine (seq_n (new_at rfl (new_l (n := s.length + 5) (vs := [.int 0, .int 0]) (fun _ => rfl) (by decide) rfl) rfl rfl)).trans ?_
  refine (seq_n (new_at rfl rfl rfl rfl)).trans ?_
  refine (seq_n (new_at rfl rfl rfl rfl)).trans ?_
  refine (seq_n (new_at rfl rfl rfl rfl)).trans ?_
  refine (seq_n (new_at rfl rfl rfl rfl)).trans ?_
  refine (seq_n (new_at rfl rfl rfl rfl)).trans ?_
  refine (seq_n (new_at rfl rfl rfl rfl)).trans ?_
  refine (seq_n (new_at rfl (new_l (n := s.length + 6) (vs := []) (fun _ => rfl) (by decide) rfl) rfl rfl)).trans ?_
  rfl
theorem Geo.app {s : AH} (G : Geo s) (l : AH) (hl : 52 ≤ s.length) : Geo (s ++ l) := fun i hi => by
  rw [List.getElem?_append_left (by lia)]; exact G i hi
theorem newPos_at {s : AH} (hl : 52 ≤ s.length) : PosAt (s ++ newPos s.length) s.length (blank s.length) := by
  refine ⟨by rw [ap_get0]; rfl, by rw [ap_get]; rfl, by rw [ap_get]; rfl, by rw [ap_get]; rfl, by rw [ap_get]; rfl, rfl, hl⟩
theorem PosAt.app {σ : AH} {p : Nat} {P : Pz} (H : PosAt σ p P) (l : AH) : PosAt (σ ++ l) p P := by
  have h := H.lt
  refine ⟨?_, ?_, ?_, ?_, ?_, H.len, H.lo⟩ <;> rw [List.getElem?_append_left (by lia)]
  · exact H.obj
  · exact H.board
  · exact H.kinds
  · exact H.sides
  · exact H.hist
end Mine
namespace Mine
open PySem
theorem settle_key_ok (d : Nat) {σ : AH} {p : Nat} {P : Pz} (G : Geo σ) (H : PosAt σ p P) {r : Nat} (hr : P.rights = r) (h16 : r < 16) (hs : P.side = 0 ∨ P.side = 1) (hb : ∀ x ∈ P.b, 0 ≤ x ∧ x < 15) :
    runF initOf tbl (d + 3) 30 [.obj p] σ = some (.none, σ.set p (.inst 2 (posFs p { P with key := fkey P.b P.side P.rights }))) := by
  have fk := full_key_ok d G H hr h16 hs hb
  have hobj := H.obj
  unfold posFs at hobj
  refine run_next' (fn := f_settle_key) rfl rfl ?_
  show ∃ env', exSs _ _ f_settle_key.body ([some (.obj p)]) σ = _
  refine ⟨[some (.obj p)], ?_⟩
  show ((runF initOf tbl (d + 2) 23 [.obj p] σ).bind _).bind _ = _
  rw [fk]
  show ((setAttrV (.obj p) 24 (.int (fkey P.b P.side P.rights)) σ).bind _).bind _ = _
  rw [set_fs _ _ hobj (of_decide_eq_true rfl)]; rfl
theorem PosAt.setObj {σ : AH} {p : Nat} {P Q : Pz} (H : PosAt σ p P) (hb : Q.b = P.b) : PosAt (σ.set p (.inst 2 (posFs p Q))) p Q := by
  have h := H.lt
  refine ⟨?_, ?_, ?_, ?_, ?_, by rw [hb]; exact H.len, H.lo⟩
  · rw [List.getElem?_set_self (by lia)]
  · rw [List.getElem?_set_ne (by lia), hb]; exact H.board
  · rw [List.getElem?_set_ne (by lia), hb]; exact H.kinds
  · rw [List.getElem?_set_ne (by lia), hb]; exact H.sides
  · rw [List.getElem?_set_ne (by lia)]; exact H.hist
theorem set_fld {σ : AH} {p : Nat} {P : Pz} (H : PosAt σ p P) (a : Nat) (v : V) (Q : Pz) (h : putF a v (posFs p P) = posFs p Q) : setAttrV (.obj p) a v σ = some (σ.set p (.inst 2 (posFs p Q))) := by
  show (match σ[p]? with | some (.inst c fs) => if fs.length < 100 then some (σ.set p (.inst c (putF a v fs))) else Option.none | _ => Option.none) = _
  rw [H.obj]
  show (if (posFs p P).length < 100 then some (σ.set p (.inst 2 (putF a v (posFs p P)))) else Option.none) = _
  rw [if_pos (by show 12 < 100; lia), h]
theorem Geo.set {σ : AH} (G : Geo σ) {p : Nat} (hp : 52 ≤ p) (x : AO) : Geo (σ.set p x) := fun i hi => by
  rw [List.getElem?_set_ne (by lia)]; exact G i hi
end Mine
namespace Mine
open PySem
noncomputable def tsq (s : Nat) : Nat := (3 - s / 7) * 7 + s % 7
theorem tsq_lt : ∀ s : Fin 28, tsq s.val < 28 ∧ tsq (tsq s.val) = s.val := by decide
theorem geo21 {σ : AH} (G : Geo σ) : ∃ fs, σ[21]? = some (.inst 0 fs) ∧ getF 0 fs = some (.int 7) ∧ getF 1 fs = some (.int 4) ∧ getF 2 fs = some (.int 28) ∧ getF 4 fs = some (.bool false) := ⟨_, G 19 (by decide), rfl, rfl, rfl, rfl⟩
theorem tsq_fin : ∀ s : Fin 28, bitsOk (4 - 1 - ((s.val / 7 : Nat) : Int)) = true ∧ (4 - 1 - ((s.val / 7 : Nat) : Int)) * 7 + ((s.val % 7 : Nat) : Int) = ((tsq s.val : Nat) : Int) := by decide
theorem turn_square_ok (d : Nat) {σ : AH} (G : Geo σ) {s : Nat} (hs : s < 28) : runF initOf tbl (d + 1) 34 [.obj 21, .int s] σ = some (.int (tsq s), σ) := by
  obtain ⟨fs, e0, e1, e2, _⟩ := geo21 G
  have b1 : bitsOk (s : Int) = true := by unfold bitsOk; exact decide_eq_true (by lia)
  have b7 : bitsOk 7 = true := by decide
  have d1 : (s : Int).fdiv 7 = ((s / 7 : Nat) : Int) := by rw [Int.fdiv_eq_ediv_of_nonneg _ (by decide)]; rfl
  have d2 : (s : Int).fmod 7 = ((s % 7 : Nat) : Int) := by rw [Int.fmod_eq_emod_of_nonneg _ (by decide)]; rfl
  obtain ⟨b2, fin⟩ := tsq_fin ⟨s, hs⟩
  dsimp only at b2 fin
  have z7 : ((7 : Int) ≠ 0) = True := eq_true (by decide)
  refine run_ret' (fn := f_turn_square) rfl rfl ?_
  show ∃ env', exSs _ _ f_turn_square.body ([some (.obj 21), some (.int s)]) σ = _
  have a0 := attr_i (a := 0) σ e0 e1
  have a1 := attr_i (a := 1) σ e0 e2
  have m1 := b_mul (σ := σ) (a := 4 - 1 - ((s / 7 : Nat) : Int)) (b := 7) ⟨b2, b7⟩
  have m2 := b_mod (σ := σ) (x := s) (m := 7) (by decide)
  have m3 := b_fdiv (σ := σ) (x := s) (m := 7) ⟨by decide, b1, b7⟩
  rw [d1] at m3
  rw [d2] at m2
  generalize runF initOf tbl d = F
  simp only [f_turn_square, y_nil, y_cons, k_seq_n, k_seq_r, k_seq_c, y_asg, k_asg_s, k_end_s, y_asgA, k_asgA_s, k_asgA2_s, y_unp, k_unp_s, k_unp2_s, k_unp3_s, y_unpA, k_unpA_s, k_unpA2_s, y_aug, k_aug_s, k_aug2_s, y_augA, k_augA_s, k_augA2_s, k_augA3_s, k_augA4_s, y_ife, k_ife_t, k_ife_f, y_for, y_forT, k_for_s, y_ret, k_ret_s, y_exp, k_exp_s, y_cont, y_try, k_var_s, z_cst, z_var, z_tab, z_bin, k_bin_s, k_bin2_s, z_neg, k_neg_s, z_inv, k_inv_s, z_not, k_not_b, z_ife, k_ifE_t, k_ifE_f, k_bool_s, z_cmp, k_cmp_s, z_bop, k_bop_tt, k_bop_tf, k_bop_ft, k_bop_ff, z_attr, k_attr_s, z_sub, k_sub_s, k_sub2_s, z_slice, k_slice_s, k_slice2_s, k_slice3_s, z_rev, k_rev_s, z_list, z_tup, k_list0, k_list1, k_list6, k_tup2, k_tup3, k_tup4, z_call, k_call_s, z_new, k_new_s, k_new2_s, z_bi, k_bi_s, z_meth, k_meth_s, k_meth2_s, k_meth3_s, lst_str, z_comp, z_nil, z_cons, k_cons_s, k_cons2_s, k_tst_s, c_one, k_one_s, c_cons, k_cc_s, k_cc2_t, k_cc2_f, t_val, k_val_s, t_not, k_tnot_s, t_bop, k_tbop_tt, k_tbop_tf, k_tbop_ft, k_tbop_ff, t_cmp, k_tcmp_s, i_nil, b_add, b_sub, b_and, b_or, b_xor, u_add, u_sub, u_or, u_xor, m_eq, m_ne, m_lt, m_le, m_gt, m_ge, m_seq, m_sne, v_bool, v_int, Bool.not_true, Bool.not_false, Option.join_some, g0, g1, g2, g3, g4, g5, g6, g7, g8, g9, g10, g11, s0, s1, s2, s3, s4, s5, s6, s7, s8, s9, s10, s11, y_asgS, k_asgS_s, k_asgS2_s, k_asgS3_s, y_augS, k_augS_s, k_augS2_s, k_augS3_s, k_augS4_s, k_augS5_s, y_augD, k_augD_s, k_augD2_s, k_augD3_s, k_augD4_s, z_dsub, k_dsub_s, a0, a1, m1, m2, m3, fin]
  exact ⟨_, rfl⟩
end Mine
namespace Mine
open PySem
noncomputable def CellOk (x : Int) : Prop := x = 0 ∨ ∃ sd k : Nat, sd < 2 ∧ 1 ≤ k ∧ k ≤ 6 ∧ x = (sd : Int) * 8 + k
noncomputable def flipP (x : Int) : Int := if x = 0 then 0 else (1 - x / 8) * 8 + x % 8
theorem flip_fin : ∀ (sd : Fin 2) (k : Fin 7), 1 ≤ k.val → flipP ((sd.val : Int) * 8 + k.val) = ((1 - sd.val : Nat) : Int) * 8 + k.val := by decide
theorem flip_fin2 : ∀ (sd : Fin 2) (k : Fin 7), 1 ≤ k.val → flipP (flipP ((sd.val : Int) * 8 + k.val)) = (sd.val : Int) * 8 + k.val := by decide
theorem cell_fin : ∀ (sd : Fin 2) (k : Fin 7), 0 ≤ (sd.val : Int) * 8 + k.val ∧ (sd.val : Int) * 8 + k.val < 15 := by decide
theorem flip_is {sd k : Nat} (hsd : sd < 2) (hk : 1 ≤ k ∧ k ≤ 6) : flipP ((sd : Int) * 8 + k) = ((1 - sd : Nat) : Int) * 8 + k := by
  exact flip_fin ⟨sd, hsd⟩ ⟨k, Nat.lt_succ_of_le hk.2⟩ hk.1
theorem CellOk.range {x : Int} (h : CellOk x) : 0 ≤ x ∧ x < 15 := by
  rcases h with rfl | ⟨sd, k, h1, h2, h3, rfl⟩
  · decide
  · exact cell_fin ⟨sd, h1⟩ ⟨k, Nat.lt_succ_of_le h3⟩
theorem CellOk.flip {x : Int} (h : CellOk x) : CellOk (flipP x) := by
  rcases h with rfl | ⟨sd, k, h1, h2, h3, rfl⟩
  · exact .inl rfl
  · rw [flip_is h1 ⟨h2, h3⟩]; exact .inr ⟨1 - sd, k, Nat.lt_of_le_of_lt (Nat.sub_le 1 sd) (by decide), h2, h3, rfl⟩
theorem flip_flip {x : Int} (h : CellOk x) : flipP (flipP x) = x := by
  rcases h with rfl | ⟨sd, k, h1, h2, h3, rfl⟩
  · rfl
  · exact flip_fin2 ⟨sd, h1⟩ ⟨k, Nat.lt_succ_of_le h3⟩ h2
noncomputable def tb (b : List Int) (i : Nat) : List Int := (List.range 28).map fun t => if tsq t < i then flipP (b.getD (tsq t) 0) else 0
noncomputable def turnB (b : List Int) : List Int := tb b 28
theorem tb_len (b : List Int) (i : Nat) : (tb b i).length = 28 := by unfold tb; simp
theorem tb_get (b : List Int) (i t : Nat) (ht : t < 28) : (tb b i)[t]? = some (if tsq t < i then flipP (b.getD (tsq t) 0) else 0) := by unfold tb; simp [ht]
theorem tb_zero (b : List Int) : tb b 0 = List.replicate 28 0 := by
  apply List.ext_getElem?
  intro t
  by_cases ht : t < 28
  · rw [tb_get _ _ _ ht, if_neg (by lia), List.getElem?_replicate, if_pos ht]
  · rw [List.getElem?_eq_none (by rw [tb_len]; lia), List.getElem?_replicate, if_neg ht]
theorem tb_step {b : List Int} {i : Nat} (hi : i < 28) : tb b (i + 1) = (tb b i).set (tsq i) (flipP (b.getD i 0)) := by
  apply List.ext_getElem?
  intro t
  by_cases ht : t < 28
  · rw [tb_get _ _ _ ht]
    have h1 := (tsq_lt ⟨i, hi⟩)
    have h2 := (tsq_lt ⟨t, ht⟩)
    dsimp only at h1 h2
    by_cases e : tsq i = t
    · subst e
      rw [List.getElem?_set_self (by rw [tb_len]; exact ht), h1.2, if_pos (by lia)]
    · rw [List.getElem?_set_ne e, tb_get _ _ _ ht]
      have : tsq t ≠ i := fun z => e (by rw [← z]; exact h2.2)
      by_cases hlt : tsq t < i
      · rw [if_pos (by lia), if_pos hlt]
      · rw [if_neg (by lia), if_neg hlt]
  · rw [List.getElem?_eq_none (by rw [tb_len]; lia), List.getElem?_eq_none (by rw [List.length_set, tb_len]; lia)]
theorem turnB_get {b : List Int} {t : Nat} (ht : t < 28) : (turnB b)[t]? = some (flipP (b.getD (tsq t) 0)) := by
  have h2 := (tsq_lt ⟨t, ht⟩).1
  dsimp only at h2
  unfold turnB
  rw [tb_get _ _ _ ht, if_pos h2]
theorem turnB_ok {b : List Int} (hb : ∀ x ∈ b, CellOk x) : ∀ x ∈ turnB b, CellOk x := by
  intro x hx
  obtain ⟨t, ht⟩ := List.getElem?_of_mem hx
  have hlt : t < 28 := by have := (List.getElem?_eq_some_iff.mp ht).1; unfold turnB at this; rw [tb_len] at this; exact this
  rw [turnB_get hlt] at ht
  cases ht
  apply CellOk.flip
  rw [List.getD_eq_getElem?_getD]
  cases q : b[tsq t]? with
  | none => exact .inl rfl
  | some y => exact hb y (List.mem_of_getElem? q)
theorem turnB_turnB {b : List Int} (hl : b.length = 28) (hb : ∀ x ∈ b, CellOk x) : turnB (turnB b) = b := by
  apply List.ext_getElem?
  intro t
  by_cases ht : t < 28
  · rw [turnB_get ht]
    have h2 := tsq_lt ⟨t, ht⟩
    dsimp only at h2
    rw [List.getD_eq_getElem?_getD, turnB_get h2.1, h2.2]
    have : b[t]? = some b[t] := List.getElem?_eq_getElem (by lia)
    rw [List.getD_eq_getElem?_getD, this]
    simp only [Option.getD_some]
    rw [flip_flip (hb _ (List.getElem_mem _))]
  · rw [List.getElem?_eq_none (by unfold turnB; rw [tb_len]; lia), List.getElem?_eq_none (by lia)]
end Mine
namespace Mine
open PySem
theorem getB {b : List Int} {i : Nat} (h : i < b.length) : (b.map V.int)[i]? = some (.int (b.getD i 0)) := by
  rw [List.getElem?_map, List.getElem?_eq_getElem h, List.getD_eq_getElem?_getD, List.getElem?_eq_getElem h]; rfl
theorem turn_body (d : Nat) {σ : AH} {p q i : Nat} {P Q : Pz} (G : Geo σ) (H : PosAt σ p P) (HQ : PosAt σ q Q) (hpq : p + 6 < q) (hi : i < 28) (hb : ∀ x ∈ P.b, CellOk x) (hQ : Q.b = tb P.b i) (x4 : Option V) :
    ∃ σ' y4 key, bd (runF initOf tbl (d + 2)) (.cons (.asg 4 (.sub (.attr (.var 0) 20) (.var 3)))
      (.cons (.ife (.cmp (.var 4) (.one .NotEq (.cst (.int 0)))) (.cons (.exp (.call 25 (.cons (.var 2) (.cons (.call 0 (.cons (.bin .Sub (.cst (.int 1)) (.call 1 (.cons (.var 4) .nil))) (.cons (.call 2 (.cons (.var 4) .nil))
      .nil))) (.cons (.call 34 (.cons (.var 1) (.cons (.var 3) .nil))) .nil))))) .nil) .nil) .nil)) [some (.obj p), some (.obj 21), some (.obj q), some (.int i), x4] σ
      = some (.next, [some (.obj p), some (.obj 21), some (.obj q), some (.int i), y4], σ') ∧ PosAt σ' q { Q with b := tb P.b (i + 1), key := key } ∧ σ'.length = σ.length ∧ ∀ j, (j < q ∨ q + 6 < j) → σ'[j]? = σ[j]? := by
  have hobj := H.obj
  unfold posFs at hobj
  have hl := H.len
  have gb := getB (b := P.b) (i := i) (by lia)
  have c2 : ((0 : Int) ≤ (i : Int) ∧ (i : Int) < 100000) = True := eq_true ⟨by lia, by lia⟩
  have hcell : CellOk (P.b.getD i 0) := by
    rw [List.getD_eq_getElem?_getD, List.getElem?_eq_getElem (by lia)]
    exact hb _ (List.getElem_mem _)
  have hstep := tb_step (b := P.b) hi
  generalize hx : P.b.getD i 0 = x at *
  rcases hcell with rfl | ⟨sd, k, h1, h2, h3, rfl⟩
  · have a20 := attr_i (a := 20) σ hobj rfl
    have sb := sub_l σ H.board gb (by lia)
    refine ⟨σ, some (.int 0), Q.key, ?_, ?_, rfl, fun _ _ => rfl⟩
    · generalize runF initOf tbl (d + 2) = F at *
      simp only [y_nil, y_cons, k_seq_n, k_seq_r, k_seq_c, y_asg, k_asg_s, k_end_s, y_asgA, k_asgA_s, k_asgA2_s, y_unp, k_unp_s, k_unp2_s, k_unp3_s, y_unpA, k_unpA_s, k_unpA2_s, y_aug, k_aug_s, k_aug2_s, y_augA, k_augA_s, k_augA2_s, k_augA3_s, k_augA4_s, y_ife, k_ife_t, k_ife_f, y_for, y_forT, k_for_s, y_ret, k_ret_s, y_exp, k_exp_s, y_cont, y_try, k_var_s, z_cst, z_var, z_tab, z_bin, k_bin_s, k_bin2_s, z_neg, k_neg_s, z_inv, k_inv_s, z_not, k_not_b, z_ife, k_ifE_t, k_ifE_f, k_bool_s, z_cmp, k_cmp_s, z_bop, k_bop_tt, k_bop_tf, k_bop_ft, k_bop_ff, z_attr, k_attr_s, z_sub, k_sub_s, k_sub2_s, z_slice, k_slice_s, k_slice2_s, k_slice3_s, z_rev, k_rev_s, z_list, z_tup, k_list0, k_list1, k_list6, k_tup2, k_tup3, k_tup4, z_call, k_call_s, z_new, k_new_s, k_new2_s, z_bi, k_bi_s, z_meth, k_meth_s, k_meth2_s, k_meth3_s, lst_str, z_comp, z_nil, z_cons, k_cons_s, k_cons2_s, k_tst_s, c_one, k_one_s, c_cons, k_cc_s, k_cc2_t, k_cc2_f, t_val, k_val_s, t_not, k_tnot_s, t_bop, k_tbop_tt, k_tbop_tf, k_tbop_ft, k_tbop_ff, t_cmp, k_tcmp_s, i_nil, b_add, b_sub, b_and, b_or, b_xor, u_add, u_sub, u_or, u_xor, m_eq, m_ne, m_lt, m_le, m_gt, m_ge, m_seq, m_sne, v_bool, v_int, Bool.not_true, Bool.not_false, Option.join_some, g0, g1, g2, g3, g4, g5, g6, g7, g8, g9, g10, g11, s0, s1, s2, s3, s4, s5, s6, s7, s8, s9, s10, s11, y_asgS, k_asgS_s, k_asgS2_s, k_asgS3_s, y_augS, k_augS_s, k_augS2_s, k_augS3_s, k_augS4_s, k_augS5_s, y_augD, k_augD_s, k_augD2_s, k_augD3_s, k_augD4_s, z_dsub, k_dsub_s, bd, a20, sb, decide_true]
    · have e : tb P.b (i + 1) = tb P.b i := by
        rw [hstep, show flipP 0 = 0 from rfl]
        apply List.ext_getElem?
        intro t
        by_cases e : tsq i = t
        · subst e
          have ht := (tsq_lt ⟨i, hi⟩)
          dsimp only at ht
          rw [List.getElem?_set_self (by rw [tb_len]; exact ht.1), tb_get _ _ _ ht.1, ht.2, if_neg (by lia)]
        · rw [List.getElem?_set_ne e]
      rw [e, ← hQ]; exact HQ
  · have sa : ((sd : Int) * 8 + k).fdiv 8 = sd := by
      rw [Int.fdiv_eq_ediv_of_nonneg _ (by decide)]; lia
    have ka : Builtin.bitAnd ((sd : Int) * 8 + k) 7 = k := kind_and ⟨sd, by lia⟩ ⟨k, by lia⟩ h1
    have m1 : (1 : Int) - (sd : Int) = ((1 - sd : Nat) : Int) := by lia
    have ht := (tsq_lt ⟨i, hi⟩)
    dsimp only at ht
    have a20 := attr_i (a := 20) σ hobj rfl
    have sb := sub_l σ H.board gb (by lia)
    have ts := turn_square_ok (d + 1) (σ := σ) G hi
    have so := side_of_ok (d + 1) ((sd : Int) * 8 + k) σ
    rw [sa] at so
    have ko := kind_of_ok (d + 1) ((sd : Int) * 8 + k) σ
    rw [ka] at ko
    have mp := make_piece_ok (d + 1) ((1 - sd : Nat) : Int) (k : Int) (by lia) σ
    obtain ⟨key, σ', r1, r2, r3, r4⟩ := put_piece_ok d (sd := 1 - sd) (k := k) (s := tsq i) G HQ (by lia) ⟨h2, h3⟩ ht.1 (by
      rw [hQ, tb_get _ _ _ ht.1, ht.2, if_neg (by lia)])
    have hd : decide ((sd : Int) * 8 + k = 0) = false := decide_eq_false (by lia)
    refine ⟨σ', some (.int ((sd : Int) * 8 + k)), key, ?_, ?_, r3, r4⟩
    · generalize runF initOf tbl (d + 2) = F at *
      simp only [y_nil, y_cons, k_seq_n, k_seq_r, k_seq_c, y_asg, k_asg_s, k_end_s, y_asgA, k_asgA_s, k_asgA2_s, y_unp, k_unp_s, k_unp2_s, k_unp3_s, y_unpA, k_unpA_s, k_unpA2_s, y_aug, k_aug_s, k_aug2_s, y_augA, k_augA_s, k_augA2_s, k_augA3_s, k_augA4_s, y_ife, k_ife_t, k_ife_f, y_for, y_forT, k_for_s, y_ret, k_ret_s, y_exp, k_exp_s, y_cont, y_try, k_var_s, z_cst, z_var, z_tab, z_bin, k_bin_s, k_bin2_s, z_neg, k_neg_s, z_inv, k_inv_s, z_not, k_not_b, z_ife, k_ifE_t, k_ifE_f, k_bool_s, z_cmp, k_cmp_s, z_bop, k_bop_tt, k_bop_tf, k_bop_ft, k_bop_ff, z_attr, k_attr_s, z_sub, k_sub_s, k_sub2_s, z_slice, k_slice_s, k_slice2_s, k_slice3_s, z_rev, k_rev_s, z_list, z_tup, k_list0, k_list1, k_list6, k_tup2, k_tup3, k_tup4, z_call, k_call_s, z_new, k_new_s, k_new2_s, z_bi, k_bi_s, z_meth, k_meth_s, k_meth2_s, k_meth3_s, lst_str, z_comp, z_nil, z_cons, k_cons_s, k_cons2_s, k_tst_s, c_one, k_one_s, c_cons, k_cc_s, k_cc2_t, k_cc2_f, t_val, k_val_s, t_not, k_tnot_s, t_bop, k_tbop_tt, k_tbop_tf, k_tbop_ft, k_tbop_ff, t_cmp, k_tcmp_s, i_nil, b_add, b_sub, b_and, b_or, b_xor, u_add, u_sub, u_or, u_xor, m_eq, m_ne, m_lt, m_le, m_gt, m_ge, m_seq, m_sne, v_bool, v_int, Bool.not_true, Bool.not_false, Option.join_some, g0, g1, g2, g3, g4, g5, g6, g7, g8, g9, g10, g11, s0, s1, s2, s3, s4, s5, s6, s7, s8, s9, s10, s11, y_asgS, k_asgS_s, k_asgS2_s, k_asgS3_s, y_augS, k_augS_s, k_augS2_s, k_augS3_s, k_augS4_s, k_augS5_s, y_augD, k_augD_s, k_augD2_s, k_augD3_s, k_augD4_s, z_dsub, k_dsub_s, bd, a20, sb, hd, so, ko, m1, mp, ts, r1]
    · have e : tb P.b (i + 1) = Q.b.set (tsq i) (((1 - sd : Nat) : Int) * 8 + k) := by rw [hstep, hQ, flip_is h1 ⟨h2, h3⟩]
      rw [e]; exact r2
end Mine
namespace Mine
open PySem
noncomputable def turnR (r : Nat) : Nat := (r % 4) * 4 + r / 4
theorem turnR_is : ∀ r : Fin 16, Builtin.bitOr (Builtin.bitAnd (r.val : Int) 3 * 2 ^ 2) ((r.val : Int).fdiv (2 ^ 2)) = ((turnR r.val : Nat) : Int) ∧ turnR r.val < 16 ∧ turnR (turnR r.val) = r.val := by decide +kernel
theorem and3_ok : ∀ r : Fin 16, bitsOk (Builtin.bitAnd (r.val : Int) 3) = true := by decide +kernel
noncomputable def turnP (P : Pz) (r : Nat) : Pz := ⟨turnB P.b, 1 - P.side, (turnR r : Nat), P.half, P.full, fkey (turnB P.b) (1 - P.side) (turnR r : Nat)⟩
theorem turn_position_ok (d : Nat) {σ : AH} {p : Nat} {P : Pz} (G : Geo σ) (H : PosAt σ p P) {r : Nat} (hr : P.rights = r) (h16 : r < 16) (hs : P.side = 0 ∨ P.side = 1) (hb : ∀ x ∈ P.b, CellOk x) :
    ∃ σ', runF initOf tbl (d + 4) 35 [.obj p] σ = some (.obj σ.length, σ') ∧ Geo σ' ∧ PosAt σ' σ.length (turnP P r) ∧ σ'.length = σ.length + 7 ∧ ∀ j, j < σ.length → σ'[j]? = σ[j]? := by
  have hlt := H.lt
  have hlo := H.lo
  have hobj := H.obj
  unfold posFs at hobj
  obtain ⟨gfs, e21, e7, e4, e28, _⟩ := geo21 G
  have po := position_ok (d + 2) (s := σ) G (by lia)
  have G1 := G.app (newPos σ.length) (by lia)
  have H1 := H.app (newPos σ.length)
  have Q1 := newPos_at (s := σ) (by lia)
  have len1 : (σ ++ newPos σ.length).length = σ.length + 7 := by simp [newPos]
  have same1 : ∀ j, j < σ.length → (σ ++ newPos σ.length)[j]? = σ[j]? := fun j hj => List.getElem?_append_left hj
  have loop := forV_range (st := stK 3) (body := bd (runF initOf tbl (d + 3)) (.cons (.asg 4 (.sub (.attr (.var 0) 20) (.var 3)))
      (.cons (.ife (.cmp (.var 4) (.one .NotEq (.cst (.int 0)))) (.cons (.exp (.call 25 (.cons (.var 2) (.cons (.call 0 (.cons (.bin .Sub (.cst (.int 1)) (.call 1 (.cons (.var 4) .nil))) (.cons (.call 2 (.cons (.var 4) .nil))
      .nil))) (.cons (.call 34 (.cons (.var 1) (.cons (.var 3) .nil))) .nil))))) .nil) .nil) .nil))) 0 28 (by decide) (by decide)
    (fun i env σ' => (∃ x3 x4, env = [some (.obj p), some (.obj 21), some (.obj σ.length), x3, x4]) ∧ Geo σ' ∧ (∃ key, PosAt σ' σ.length { blank σ.length with b := tb P.b i, key := key }) ∧ σ'.length = σ.length + 7 ∧ ∀ j, j < σ.length → σ'[j]? = σ[j]?)
    (fun i env σ' hi h => by
      obtain ⟨⟨x3, x4, rfl⟩, G', ⟨key, Q'⟩, l', sm⟩ := h
      have H' : PosAt σ' p P := ⟨by rw [sm _ (by lia)]; exact H.obj, by rw [sm _ (by lia)]; exact H.board, by rw [sm _ (by lia)]; exact H.kinds, by rw [sm _ (by lia)]; exact H.sides, by rw [sm _ (by lia)]; exact H.hist, H.len, H.lo⟩
      obtain ⟨σ2, y4, key2, r1, r2, r3, r4⟩ := turn_body (d + 1) G' H' Q' hlt hi hb rfl x4
      refine ⟨_, rfl, .next, [some (.obj p), some (.obj 21), some (.obj σ.length), some (.int i), y4], σ2, .inl rfl, ?_, ⟨_, y4, rfl⟩, fun j hj => ?_, ⟨key2, r2⟩, by lia, fun j hj => ?_⟩
      · rw [Nat.zero_add]; exact r1
      · by_cases hq : j + 2 < σ.length
        · rw [r4 _ (.inl hq)]; exact G' j hj
        · lia
      · rw [r4 _ (.inl hj)]; exact sm j hj)
    [some (.obj p), some (.obj 21), some (.obj σ.length), none, none] (σ ++ newPos σ.length)
    ⟨⟨none, none, rfl⟩, G1, ⟨0, by rw [tb_zero]; exact Q1⟩, len1, same1⟩
  obtain ⟨env', σ2, e, ⟨x3, x4, he⟩, G2, ⟨key, Q2⟩, l2, s2'⟩ := loop
  subst he
  rw [show ((0 : Nat) : Int) = 0 from rfl, show ((0 + 28 : Nat) : Int) = 28 from rfl] at e
  have q0 : 52 ≤ σ.length := by lia
  have em : decide ((0 : Int) ≤ -1) = false := by decide
  obtain ⟨tr1, tr2, _⟩ := turnR_is ⟨r, h16⟩
  have a3 := and3_ok ⟨r, h16⟩
  dsimp only at tr1 tr2 a3
  have hp2 : σ2[p]? = _ := (s2' p (by lia)).trans H.obj
  have a18 := attr_i (a := 18) σ hobj rfl
  have a19 := attr_i (a := 19) σ hobj rfl
  have b17 := attr_i (a := 17) σ2 hp2 rfl
  have sa1 := set_fld Q2 17 (.int (1 - P.side)) { blank σ.length with b := tb P.b 28, key := key, side := 1 - P.side } rfl
  have T1 := Q2.setObj (Q := { blank σ.length with b := tb P.b 28, key := key, side := 1 - P.side }) rfl
  have keep : ∀ (S : AH) (x : AO), S[p]? = some (.inst 2 (posFs p P)) → (S.set σ.length x)[p]? = some (.inst 2 (posFs p P)) := fun S x h => by rw [List.getElem?_set_ne (by lia)]; exact h
  have h3 := keep _ (.inst 2 (posFs σ.length { blank σ.length with b := tb P.b 28, key := key, side := 1 - P.side })) hp2
  have l3 : (σ2.set σ.length (.inst 2 (posFs σ.length { blank σ.length with b := tb P.b 28, key := key, side := 1 - P.side }))).length = σ.length + 7 := by rw [List.length_set]; exact l2
  have m3 : ∀ j, j < σ.length → (σ2.set σ.length (.inst 2 (posFs σ.length { blank σ.length with b := tb P.b 28, key := key, side := 1 - P.side })))[j]? = σ[j]? := fun j hj => by rw [List.getElem?_set_ne (by lia)]; exact s2' j hj
  generalize σ2.set σ.length (.inst 2 (posFs σ.length { blank σ.length with b := tb P.b 28, key := key, side := 1 - P.side })) = σ3 at *
  have c16 : attrV (.obj p) 16 σ3 = some (.int (r : Int)) := by rw [← hr]; exact attr_i σ3 h3 rfl
  have sa2 := set_fld T1 16 (.int ((turnR r : Nat) : Int)) { blank σ.length with b := tb P.b 28, key := key, side := 1 - P.side, rights := ((turnR r : Nat) : Int) } rfl
  have T2 := T1.setObj (Q := { blank σ.length with b := tb P.b 28, key := key, side := 1 - P.side, rights := ((turnR r : Nat) : Int) }) rfl
  have h4 := keep _ (.inst 2 (posFs σ.length { blank σ.length with b := tb P.b 28, key := key, side := 1 - P.side, rights := ((turnR r : Nat) : Int) })) h3
  have l4 : (σ3.set σ.length (.inst 2 (posFs σ.length { blank σ.length with b := tb P.b 28, key := key, side := 1 - P.side, rights := ((turnR r : Nat) : Int) }))).length = σ.length + 7 := by rw [List.length_set]; exact l3
  have m4 : ∀ j, j < σ.length → (σ3.set σ.length (.inst 2 (posFs σ.length { blank σ.length with b := tb P.b 28, key := key, side := 1 - P.side, rights := ((turnR r : Nat) : Int) })))[j]? = σ[j]? := fun j hj => by rw [List.getElem?_set_ne (by lia)]; exact m3 j hj
  generalize σ3.set σ.length (.inst 2 (posFs σ.length { blank σ.length with b := tb P.b 28, key := key, side := 1 - P.side, rights := ((turnR r : Nat) : Int) })) = σ4 at *
  have d15 := attr_i (a := 15) σ4 h4 rfl
  have d23 := attr_i (a := 23) σ4 h4 rfl
  have sa3 := set_fld T2 23 (.int P.half) { blank σ.length with b := tb P.b 28, key := key, side := 1 - P.side, rights := ((turnR r : Nat) : Int), half := P.half } rfl
  have T3 := T2.setObj (Q := { blank σ.length with b := tb P.b 28, key := key, side := 1 - P.side, rights := ((turnR r : Nat) : Int), half := P.half }) rfl
  have h5 := keep _ (.inst 2 (posFs σ.length { blank σ.length with b := tb P.b 28, key := key, side := 1 - P.side, rights := ((turnR r : Nat) : Int), half := P.half })) h4
  have l5 : (σ4.set σ.length (.inst 2 (posFs σ.length { blank σ.length with b := tb P.b 28, key := key, side := 1 - P.side, rights := ((turnR r : Nat) : Int), half := P.half }))).length = σ.length + 7 := by rw [List.length_set]; exact l4
  have m5 : ∀ j, j < σ.length → (σ4.set σ.length (.inst 2 (posFs σ.length { blank σ.length with b := tb P.b 28, key := key, side := 1 - P.side, rights := ((turnR r : Nat) : Int), half := P.half })))[j]? = σ[j]? := fun j hj => by rw [List.getElem?_set_ne (by lia)]; exact m4 j hj
  generalize σ4.set σ.length (.inst 2 (posFs σ.length { blank σ.length with b := tb P.b 28, key := key, side := 1 - P.side, rights := ((turnR r : Nat) : Int), half := P.half })) = σ5 at *
  have e3 := attr_i (a := 3) σ5 h5 rfl
  have sa4 := set_fld T3 3 (.int P.full) { turnP P r with key := key } rfl
  have T4 := T3.setObj (Q := { turnP P r with key := key }) rfl
  have l6 : (σ5.set σ.length (.inst 2 (posFs σ.length { turnP P r with key := key }))).length = σ.length + 7 := by rw [List.length_set]; exact l5
  have m6 : ∀ j, j < σ.length → (σ5.set σ.length (.inst 2 (posFs σ.length { turnP P r with key := key })))[j]? = σ[j]? := fun j hj => by rw [List.getElem?_set_ne (by lia)]; exact m5 j hj
  generalize σ5.set σ.length (.inst 2 (posFs σ.length { turnP P r with key := key })) = σ6 at *
  have G6 : Geo σ6 := fun i hi => by rw [m6 _ (by lia)]; exact G i hi
  have sk := settle_key_ok d G6 T4 (r := turnR r) rfl tr2 (by show 1 - P.side = 0 ∨ 1 - P.side = 1; lia) (fun x hx => (turnB_ok hb x hx).range)
  have sk' : runF initOf tbl (d + 3) 30 [.obj σ.length] σ6 = some (.none, σ6.set σ.length (.inst 2 (posFs σ.length (turnP P r)))) := sk
  have q0 : 52 ≤ σ.length := by lia
  refine ⟨σ6.set σ.length (.inst 2 (posFs σ.length (turnP P r))), ?_, G6.set q0 _, PosAt.setObj T4 rfl, by rw [List.length_set]; exact l6, fun j hj => by rw [List.getElem?_set_ne (by lia)]; exact m6 j hj⟩
  refine run_ret' (fn := f_turn_position) rfl rfl ?_
  show ∃ env', exSs _ _ f_turn_position.body ([some (.obj p), none, none, none, none]) σ = _
  have a2 : attrV (.obj 21) 2 (σ ++ newPos σ.length) = some (.int 28) := attr_i (a := 2) _ (by rw [List.getElem?_append_left (by lia)]; exact e21) e28
  have br : biV .range [.int 28] (σ ++ newPos σ.length) = some (.range 0 28 1, σ ++ newPos σ.length) := bi_range _ (n := 28) (by lia)
  have i2 : initOf 2 = 24 := rfl
  have sh : binV .LShift (.int (Builtin.bitAnd (r : Int) 3)) (.int 2) σ3 = some (.int (Builtin.bitAnd (r : Int) 3 * 2 ^ 2), σ3) := b_shl σ3 (n := 2) ⟨by lia, a3⟩
  have sr : binV .RShift (.int (r : Int)) (.int 2) σ3 = some (.int ((r : Int).fdiv (2 ^ 2)), σ3) := b_shr σ3 (r : Int) 2
  generalize runF initOf tbl (d + 3) = F at *
  simp only [y_nil, y_cons, k_seq_n, k_seq_r, k_seq_c, y_asg, k_asg_s, k_end_s, y_asgA, k_asgA_s, k_asgA2_s, y_unp, k_unp_s, k_unp2_s, k_unp3_s, y_unpA, k_unpA_s, k_unpA2_s, y_aug, k_aug_s, k_aug2_s, y_augA, k_augA_s, k_augA2_s, k_augA3_s, k_augA4_s, y_ife, k_ife_t, k_ife_f, y_for, y_forT, k_for_s, y_ret, k_ret_s, y_exp, k_exp_s, y_cont, y_try, k_var_s, z_cst, z_var, z_tab, z_bin, k_bin_s, k_bin2_s, z_neg, k_neg_s, z_inv, k_inv_s, z_not, k_not_b, z_ife, k_ifE_t, k_ifE_f, k_bool_s, z_cmp, k_cmp_s, z_bop, k_bop_tt, k_bop_tf, k_bop_ft, k_bop_ff, z_attr, k_attr_s, z_sub, k_sub_s, k_sub2_s, z_slice, k_slice_s, k_slice2_s, k_slice3_s, z_rev, k_rev_s, z_list, z_tup, k_list0, k_list1, k_list6, k_tup2, k_tup3, k_tup4, z_call, k_call_s, z_new, k_new_s, k_new2_s, z_bi, k_bi_s, z_meth, k_meth_s, k_meth2_s, k_meth3_s, lst_str, z_comp, z_nil, z_cons, k_cons_s, k_cons2_s, k_tst_s, c_one, k_one_s, c_cons, k_cc_s, k_cc2_t, k_cc2_f, t_val, k_val_s, t_not, k_tnot_s, t_bop, k_tbop_tt, k_tbop_tf, k_tbop_ft, k_tbop_ff, t_cmp, k_tcmp_s, i_nil, b_add, b_sub, b_and, b_or, b_xor, u_add, u_sub, u_or, u_xor, m_eq, m_ne, m_lt, m_le, m_gt, m_ge, m_seq, m_sne, v_bool, v_int, Bool.not_true, Bool.not_false, Option.join_some, g0, g1, g2, g3, g4, g5, g6, g7, g8, g9, g10, g11, s0, s1, s2, s3, s4, s5, s6, s7, s8, s9, s10, s11, y_asgS, k_asgS_s, k_asgS2_s, k_asgS3_s, y_augS, k_augS_s, k_augS2_s, k_augS3_s, k_augS4_s, k_augS5_s, y_augD, k_augD_s, k_augD2_s, k_augD3_s, k_augD4_s, z_dsub, k_dsub_s, f_turn_position, a18, a19, i2, po, a2, br, e, b17, sa1, c16, sh, sr, tr1, sa2, d15, em, d23, sa3, e3, sa4, sk']
  exact ⟨_, rfl⟩
end Mine
namespace Mine
open PySem
noncomputable def letters : List Nat := [46, 80, 78, 66, 82, 81, 75, 46, 46, 112, 110, 98, 114, 113, 107]
noncomputable def letC (x : Int) : Nat := letters.getD x.toNat 46
theorem intText_dig : ∀ g : Fin 10, intText (g.val : Int) = [48 + g.val] := by decide +kernel
theorem bi_dig {g : Nat} (h : g < 10) (σ : AH) : biV .str [.int g] σ = some (.str [48 + g], σ) := by
  rw [bi_str σ (by lia), intText_dig ⟨g, h⟩]
theorem lett {x : Int} (h : 0 ≤ x ∧ x < 15) : letters[x.toNat]? = some (letC x) := by
  unfold letC
  rw [List.getD_eq_getElem?_getD, List.getElem?_eq_getElem (show x.toNat < letters.length by show x.toNat < 15; lia)]; rfl
theorem is_piece_ok (d : Nat) {x : Int} (hx : CellOk x) (h0 : x ≠ 0) (σ : AH) : runF initOf tbl (d + 1) 3 [.int x] σ = some (.bool true, σ) := by
  have c : decide (0 < x) = true ∧ decide (x < 15) = true ∧ decide (x = 7) = false ∧ decide (x = 8) = false := by
    rcases hx with rfl | ⟨sd, k, h1, h2, h3, rfl⟩
    · exact absurd rfl h0
    · exact ⟨decide_eq_true (by lia), decide_eq_true (by lia), decide_eq_false (by lia), decide_eq_false (by lia)⟩
  obtain ⟨c1, c2, c3, c4⟩ := c
  refine run_ret' (fn := f_is_piece) rfl rfl ?_
  show ∃ env', exSs _ _ f_is_piece.body ([some (.int x)]) σ = _
  generalize runF initOf tbl d = F
  simp only [y_nil, y_cons, k_seq_n, k_seq_r, k_seq_c, y_asg, k_asg_s, k_end_s, y_asgA, k_asgA_s, k_asgA2_s, y_unp, k_unp_s, k_unp2_s, k_unp3_s, y_unpA, k_unpA_s, k_unpA2_s, y_aug, k_aug_s, k_aug2_s, y_augA, k_augA_s, k_augA2_s, k_augA3_s, k_augA4_s, y_ife, k_ife_t, k_ife_f, y_for, y_forT, k_for_s, y_ret, k_ret_s, y_exp, k_exp_s, y_cont, y_try, k_var_s, z_cst, z_var, z_tab, z_bin, k_bin_s, k_bin2_s, z_neg, k_neg_s, z_inv, k_inv_s, z_not, k_not_b, z_ife, k_ifE_t, k_ifE_f, k_bool_s, z_cmp, k_cmp_s, z_bop, k_bop_tt, k_bop_tf, k_bop_ft, k_bop_ff, z_attr, k_attr_s, z_sub, k_sub_s, k_sub2_s, z_slice, k_slice_s, k_slice2_s, k_slice3_s, z_rev, k_rev_s, z_list, z_tup, k_list0, k_list1, k_list6, k_tup2, k_tup3, k_tup4, z_call, k_call_s, z_new, k_new_s, k_new2_s, z_bi, k_bi_s, z_meth, k_meth_s, k_meth2_s, k_meth3_s, lst_str, z_comp, z_nil, z_cons, k_cons_s, k_cons2_s, k_tst_s, c_one, k_one_s, c_cons, k_cc_s, k_cc2_t, k_cc2_f, t_val, k_val_s, t_not, k_tnot_s, t_bop, k_tbop_tt, k_tbop_tf, k_tbop_ft, k_tbop_ff, t_cmp, k_tcmp_s, i_nil, b_add, b_sub, b_and, b_or, b_xor, u_add, u_sub, u_or, u_xor, m_eq, m_ne, m_lt, m_le, m_gt, m_ge, m_seq, m_sne, v_bool, v_int, Bool.not_true, Bool.not_false, Option.join_some, g0, g1, g2, g3, g4, g5, g6, g7, g8, g9, g10, g11, s0, s1, s2, s3, s4, s5, s6, s7, s8, s9, s10, s11, f_is_piece, c1, c2, c3, c4]
  exact ⟨_, rfl⟩
theorem letter_of_ok (d : Nat) {x : Int} (hx : CellOk x) (h0 : x ≠ 0) (σ : AH) : runF initOf tbl (d + 2) 4 [.int x] σ = some (.str [letC x], σ) := by
  have hl := lett hx.range
  unfold letters at hl
  have hr := hx.range
  obtain ⟨n, rfl⟩ := Int.eq_ofNat_of_zero_le hr.1
  have hs := sub_sx σ (i := n) hl (by lia)
  have hd : decide ((n : Int) = 0) = false := decide_eq_false h0
  refine run_ret' (fn := f_letter_of) rfl rfl ?_
  show ∃ env', exSs _ _ f_letter_of.body ([some (.int n)]) σ = _
  have ip := is_piece_ok d hx h0 σ
  generalize runF initOf tbl (d + 1) = F at *
  simp only [y_nil, y_cons, k_seq_n, k_seq_r, k_seq_c, y_asg, k_asg_s, k_end_s, y_asgA, k_asgA_s, k_asgA2_s, y_unp, k_unp_s, k_unp2_s, k_unp3_s, y_unpA, k_unpA_s, k_unpA2_s, y_aug, k_aug_s, k_aug2_s, y_augA, k_augA_s, k_augA2_s, k_augA3_s, k_augA4_s, y_ife, k_ife_t, k_ife_f, y_for, y_forT, k_for_s, y_ret, k_ret_s, y_exp, k_exp_s, y_cont, y_try, k_var_s, z_cst, z_var, z_tab, z_bin, k_bin_s, k_bin2_s, z_neg, k_neg_s, z_inv, k_inv_s, z_not, k_not_b, z_ife, k_ifE_t, k_ifE_f, k_bool_s, z_cmp, k_cmp_s, z_bop, k_bop_tt, k_bop_tf, k_bop_ft, k_bop_ff, z_attr, k_attr_s, z_sub, k_sub_s, k_sub2_s, z_slice, k_slice_s, k_slice2_s, k_slice3_s, z_rev, k_rev_s, z_list, z_tup, k_list0, k_list1, k_list6, k_tup2, k_tup3, k_tup4, z_call, k_call_s, z_new, k_new_s, k_new2_s, z_bi, k_bi_s, z_meth, k_meth_s, k_meth2_s, k_meth3_s, lst_str, z_comp, z_nil, z_cons, k_cons_s, k_cons2_s, k_tst_s, c_one, k_one_s, c_cons, k_cc_s, k_cc2_t, k_cc2_f, t_val, k_val_s, t_not, k_tnot_s, t_bop, k_tbop_tt, k_tbop_tf, k_tbop_ft, k_tbop_ff, t_cmp, k_tcmp_s, i_nil, b_add, b_sub, b_and, b_or, b_xor, u_add, u_sub, u_or, u_xor, m_eq, m_ne, m_lt, m_le, m_gt, m_ge, m_seq, m_sne, v_bool, v_int, Bool.not_true, Bool.not_false, Option.join_some, g0, g1, g2, g3, g4, g5, g6, g7, g8, g9, g10, g11, s0, s1, s2, s3, s4, s5, s6, s7, s8, s9, s10, s11, f_letter_of, hd, ip, hs]
  exact ⟨_, rfl⟩
noncomputable def gapT (g : Nat) : List Nat := if g = 0 then [] else [48 + g]
noncomputable def rowT : List Int → Nat → List Nat
  | [], g => gapT g
  | x :: r, g => if x = 0 then rowT r (g + 1) else gapT g ++ letC x :: rowT r 0
theorem gapT_len (g : Nat) : (gapT g).length ≤ 1 := by unfold gapT; split <;> simp
noncomputable def wrBody : ISs := .cons (.ife (.cmp (.var 3) (.one .Eq (.cst (.int 0)))) (.cons (.aug 2 .Add (.cst (.int 1))) (.nil)) (.cons (.ife (.cmp (.var 2) (.one .Gt (.cst (.int 0)))) (.cons (.aug 1 .Add (.bi .str (.cons (.var 2) (.nil)))) (.nil)) (.nil)) (.cons (.asg 2 (.cst (.int 0))) (.cons (.aug 1 .Add (.call 4 (.cons (.var 3) (.nil)))) (.nil))))) (.nil)
theorem wr_body (d : Nat) (σ : AH) (m : Nat) (t : List Nat) (g : Nat) (x : Int) (hx : CellOk x) (hg : g ≤ 9) (ht : t.length ≤ 100) : bd (runF initOf tbl (d + 2)) wrBody [some (.obj m), some (.str t), some (.int (g : Int)), some (.int x)] σ =
    if x = 0 then some (.next, [some (.obj m), some (.str t), some (.int ((g + 1 : Nat) : Int)), some (.int x)], σ) else some (.next, [some (.obj m), some (.str (t ++ gapT g ++ [letC x])), some (.int ((0 : Nat) : Int)), some (.int x)], σ) := by
  by_cases h0 : x = 0
  · rw [if_pos h0]
    have hd : decide (x = 0) = true := decide_eq_true h0
    have ci : (g : Int) + 1 = ((g + 1 : Nat) : Int) := by lia
    generalize runF initOf tbl (d + 2) = F at *
    simp only [y_nil, y_cons, k_seq_n, k_seq_r, k_seq_c, y_asg, k_asg_s, k_end_s, y_asgA, k_asgA_s, k_asgA2_s, y_unp, k_unp_s, k_unp2_s, k_unp3_s, y_unpA, k_unpA_s, k_unpA2_s, y_aug, k_aug_s, k_aug2_s, y_augA, k_augA_s, k_augA2_s, k_augA3_s, k_augA4_s, y_ife, k_ife_t, k_ife_f, y_for, y_forT, k_for_s, y_ret, k_ret_s, y_exp, k_exp_s, y_cont, y_try, k_var_s, z_cst, z_var, z_tab, z_bin, k_bin_s, k_bin2_s, z_neg, k_neg_s, z_inv, k_inv_s, z_not, k_not_b, z_ife, k_ifE_t, k_ifE_f, k_bool_s, z_cmp, k_cmp_s, z_bop, k_bop_tt, k_bop_tf, k_bop_ft, k_bop_ff, z_attr, k_attr_s, z_sub, k_sub_s, k_sub2_s, z_slice, k_slice_s, k_slice2_s, k_slice3_s, z_rev, k_rev_s, z_list, z_tup, k_list0, k_list1, k_list6, k_tup2, k_tup3, k_tup4, z_call, k_call_s, z_new, k_new_s, k_new2_s, z_bi, k_bi_s, z_meth, k_meth_s, k_meth2_s, k_meth3_s, lst_str, z_comp, z_nil, z_cons, k_cons_s, k_cons2_s, k_tst_s, c_one, k_one_s, c_cons, k_cc_s, k_cc2_t, k_cc2_f, t_val, k_val_s, t_not, k_tnot_s, t_bop, k_tbop_tt, k_tbop_tf, k_tbop_ft, k_tbop_ff, t_cmp, k_tcmp_s, i_nil, b_add, b_sub, b_and, b_or, b_xor, u_add, u_sub, u_or, u_xor, m_eq, m_ne, m_lt, m_le, m_gt, m_ge, m_seq, m_sne, v_bool, v_int, Bool.not_true, Bool.not_false, Option.join_some, g0, g1, g2, g3, g4, g5, g6, g7, g8, g9, g10, g11, s0, s1, s2, s3, s4, s5, s6, s7, s8, s9, s10, s11, bd, wrBody, hd, ci]
  · rw [if_neg h0]
    have hd : decide (x = 0) = false := decide_eq_false h0
    have lo := letter_of_ok d hx h0 σ
    have l1 := u_str (a := t) (b := [letC x]) σ (by simp only [List.length_cons, List.length_nil]; lia)
    by_cases hg0 : g = 0
    · subst hg0
      have gd : decide ((0 : Int) < ((0 : Nat) : Int)) = false := rfl
      have gt : gapT 0 = [] := rfl
      generalize runF initOf tbl (d + 2) = F at *
      simp only [y_nil, y_cons, k_seq_n, k_seq_r, k_seq_c, y_asg, k_asg_s, k_end_s, y_asgA, k_asgA_s, k_asgA2_s, y_unp, k_unp_s, k_unp2_s, k_unp3_s, y_unpA, k_unpA_s, k_unpA2_s, y_aug, k_aug_s, k_aug2_s, y_augA, k_augA_s, k_augA2_s, k_augA3_s, k_augA4_s, y_ife, k_ife_t, k_ife_f, y_for, y_forT, k_for_s, y_ret, k_ret_s, y_exp, k_exp_s, y_cont, y_try, k_var_s, z_cst, z_var, z_tab, z_bin, k_bin_s, k_bin2_s, z_neg, k_neg_s, z_inv, k_inv_s, z_not, k_not_b, z_ife, k_ifE_t, k_ifE_f, k_bool_s, z_cmp, k_cmp_s, z_bop, k_bop_tt, k_bop_tf, k_bop_ft, k_bop_ff, z_attr, k_attr_s, z_sub, k_sub_s, k_sub2_s, z_slice, k_slice_s, k_slice2_s, k_slice3_s, z_rev, k_rev_s, z_list, z_tup, k_list0, k_list1, k_list6, k_tup2, k_tup3, k_tup4, z_call, k_call_s, z_new, k_new_s, k_new2_s, z_bi, k_bi_s, z_meth, k_meth_s, k_meth2_s, k_meth3_s, lst_str, z_comp, z_nil, z_cons, k_cons_s, k_cons2_s, k_tst_s, c_one, k_one_s, c_cons, k_cc_s, k_cc2_t, k_cc2_f, t_val, k_val_s, t_not, k_tnot_s, t_bop, k_tbop_tt, k_tbop_tf, k_tbop_ft, k_tbop_ff, t_cmp, k_tcmp_s, i_nil, b_add, b_sub, b_and, b_or, b_xor, u_add, u_sub, u_or, u_xor, m_eq, m_ne, m_lt, m_le, m_gt, m_ge, m_seq, m_sne, v_bool, v_int, Bool.not_true, Bool.not_false, Option.join_some, g0, g1, g2, g3, g4, g5, g6, g7, g8, g9, g10, g11, s0, s1, s2, s3, s4, s5, s6, s7, s8, s9, s10, s11, bd, wrBody, hd, gd, lo, l1, gt, List.append_nil]
      rfl
    · have gd : decide ((0 : Int) < (g : Int)) = true := decide_eq_true (by lia)
      have gt : gapT g = [48 + g] := by unfold gapT; rw [if_neg hg0]
      have bg := bi_dig (g := g) (by lia) σ
      have l2 := u_str (a := t) (b := [48 + g]) σ (by simp only [List.length_cons, List.length_nil]; lia)
      have l3 := u_str (a := t ++ [48 + g]) (b := [letC x]) σ (by simp only [List.length_append, List.length_cons, List.length_nil]; lia)
      generalize runF initOf tbl (d + 2) = F at *
      simp only [y_nil, y_cons, k_seq_n, k_seq_r, k_seq_c, y_asg, k_asg_s, k_end_s, y_asgA, k_asgA_s, k_asgA2_s, y_unp, k_unp_s, k_unp2_s, k_unp3_s, y_unpA, k_unpA_s, k_unpA2_s, y_aug, k_aug_s, k_aug2_s, y_augA, k_augA_s, k_augA2_s, k_augA3_s, k_augA4_s, y_ife, k_ife_t, k_ife_f, y_for, y_forT, k_for_s, y_ret, k_ret_s, y_exp, k_exp_s, y_cont, y_try, k_var_s, z_cst, z_var, z_tab, z_bin, k_bin_s, k_bin2_s, z_neg, k_neg_s, z_inv, k_inv_s, z_not, k_not_b, z_ife, k_ifE_t, k_ifE_f, k_bool_s, z_cmp, k_cmp_s, z_bop, k_bop_tt, k_bop_tf, k_bop_ft, k_bop_ff, z_attr, k_attr_s, z_sub, k_sub_s, k_sub2_s, z_slice, k_slice_s, k_slice2_s, k_slice3_s, z_rev, k_rev_s, z_list, z_tup, k_list0, k_list1, k_list6, k_tup2, k_tup3, k_tup4, z_call, k_call_s, z_new, k_new_s, k_new2_s, z_bi, k_bi_s, z_meth, k_meth_s, k_meth2_s, k_meth3_s, lst_str, z_comp, z_nil, z_cons, k_cons_s, k_cons2_s, k_tst_s, c_one, k_one_s, c_cons, k_cc_s, k_cc2_t, k_cc2_f, t_val, k_val_s, t_not, k_tnot_s, t_bop, k_tbop_tt, k_tbop_tf, k_tbop_ft, k_tbop_ff, t_cmp, k_tcmp_s, i_nil, b_add, b_sub, b_and, b_or, b_xor, u_add, u_sub, u_or, u_xor, m_eq, m_ne, m_lt, m_le, m_gt, m_ge, m_seq, m_sne, v_bool, v_int, Bool.not_true, Bool.not_false, Option.join_some, g0, g1, g2, g3, g4, g5, g6, g7, g8, g9, g10, g11, s0, s1, s2, s3, s4, s5, s6, s7, s8, s9, s10, s11, bd, wrBody, hd, gd, lo, l2, l3, gt, bg]
      rfl
theorem write_row_ok (d : Nat) {σ : AH} {m : Nat} {cells : List Int} (hl : listAt σ m = some (cells.map .int)) (hlen : cells.length ≤ 9) (hc : ∀ x ∈ cells, CellOk x) :
    runF initOf tbl (d + 3) 54 [.obj m] σ = some (.str (rowT cells 0), σ) := by
  refine run_ret' (fn := f_write_row) rfl rfl ?_
  show ∃ env', exSs _ _ f_write_row.body ([some (.obj m), none, none, none]) σ = _
  have loop := forV_list (m := m) (vs := cells.map .int) (st := stK 3) (body := bd (runF initOf tbl (d + 2)) wrBody)
    (fun i env σ' => σ' = σ ∧ ∃ t g x3, env = [some (.obj m), some (.str t), some (.int ((g : Nat) : Int)), x3] ∧ t ++ rowT (cells.drop i) g = rowT cells 0 ∧ t.length ≤ 2 * i ∧ g ≤ i)
    (fun i env σ' h => by rw [h.1]; exact hl)
    (fun i env σ' v hv h => by
      obtain ⟨rfl, t, g, x3, rfl, h1, h2, h3⟩ := h
      rw [List.getElem?_map] at hv
      obtain ⟨x, hx, rfl⟩ := Option.map_eq_some_iff.mp hv
      have hi : i < cells.length := (List.getElem?_eq_some_iff.mp hx).1
      have hxc := hc x (List.mem_of_getElem? hx)
      have hdr : cells.drop i = x :: cells.drop (i + 1) := by
        rw [List.drop_eq_getElem_cons hi]; congr 1; exact (List.getElem?_eq_some_iff.mp hx).2
      rw [hdr, rowT] at h1
      have wb := wr_body d σ' m t g x hxc (by lia) (by lia)
      refine ⟨_, rfl, .next, ?_⟩
      by_cases h0 : x = 0
      · rw [if_pos h0] at h1 wb
        exact ⟨_, _, .inl rfl, wb, rfl, t, g + 1, _, rfl, h1, by lia, by lia⟩
      · rw [if_neg h0] at h1 wb
        refine ⟨_, _, .inl rfl, wb, rfl, _, 0, _, rfl, ?_, ?_, by lia⟩
        · rw [← h1]; simp
        · have := gapT_len g
          simp only [List.length_append, List.length_cons, List.length_nil]; lia)
    [some (.obj m), some (.str []), some (.int 0), none] σ ⟨rfl, [], 0, none, rfl, by simp, by simp, by lia⟩
  obtain ⟨env', σ', e, hσ, t, g, x3, he, h1, h2, h3⟩ := loop
  subst hσ; subst he
  rw [List.length_map] at h1 h2 h3
  rw [List.drop_eq_nil_of_le (Nat.le_refl _), rowT] at h1
  unfold wrBody at e
  generalize runF initOf tbl (d + 2) = F at *
  by_cases hg0 : g = 0
  · subst hg0
    have gd : decide ((0 : Int) < ((0 : Nat) : Int)) = false := rfl
    rw [show gapT 0 = [] from rfl, List.append_nil] at h1
    simp only [y_nil, y_cons, k_seq_n, k_seq_r, k_seq_c, y_asg, k_asg_s, k_end_s, y_asgA, k_asgA_s, k_asgA2_s, y_unp, k_unp_s, k_unp2_s, k_unp3_s, y_unpA, k_unpA_s, k_unpA2_s, y_aug, k_aug_s, k_aug2_s, y_augA, k_augA_s, k_augA2_s, k_augA3_s, k_augA4_s, y_ife, k_ife_t, k_ife_f, y_for, y_forT, k_for_s, y_ret, k_ret_s, y_exp, k_exp_s, y_cont, y_try, k_var_s, z_cst, z_var, z_tab, z_bin, k_bin_s, k_bin2_s, z_neg, k_neg_s, z_inv, k_inv_s, z_not, k_not_b, z_ife, k_ifE_t, k_ifE_f, k_bool_s, z_cmp, k_cmp_s, z_bop, k_bop_tt, k_bop_tf, k_bop_ft, k_bop_ff, z_attr, k_attr_s, z_sub, k_sub_s, k_sub2_s, z_slice, k_slice_s, k_slice2_s, k_slice3_s, z_rev, k_rev_s, z_list, z_tup, k_list0, k_list1, k_list6, k_tup2, k_tup3, k_tup4, z_call, k_call_s, z_new, k_new_s, k_new2_s, z_bi, k_bi_s, z_meth, k_meth_s, k_meth2_s, k_meth3_s, lst_str, z_comp, z_nil, z_cons, k_cons_s, k_cons2_s, k_tst_s, c_one, k_one_s, c_cons, k_cc_s, k_cc2_t, k_cc2_f, t_val, k_val_s, t_not, k_tnot_s, t_bop, k_tbop_tt, k_tbop_tf, k_tbop_ft, k_tbop_ff, t_cmp, k_tcmp_s, i_nil, b_add, b_sub, b_and, b_or, b_xor, u_add, u_sub, u_or, u_xor, m_eq, m_ne, m_lt, m_le, m_gt, m_ge, m_seq, m_sne, v_bool, v_int, Bool.not_true, Bool.not_false, Option.join_some, g0, g1, g2, g3, g4, g5, g6, g7, g8, g9, g10, g11, s0, s1, s2, s3, s4, s5, s6, s7, s8, s9, s10, s11, f_write_row, e, gd, h1]
    exact ⟨_, rfl⟩
  · have gd : decide ((0 : Int) < (g : Int)) = true := decide_eq_true (by lia)
    have gt : gapT g = [48 + g] := by unfold gapT; rw [if_neg hg0]
    rw [gt] at h1
    have bg := bi_dig (g := g) (by lia) σ'
    have l2 := u_str (a := t) (b := [48 + g]) σ' (by simp only [List.length_cons, List.length_nil]; lia)
    simp only [y_nil, y_cons, k_seq_n, k_seq_r, k_seq_c, y_asg, k_asg_s, k_end_s, y_asgA, k_asgA_s, k_asgA2_s, y_unp, k_unp_s, k_unp2_s, k_unp3_s, y_unpA, k_unpA_s, k_unpA2_s, y_aug, k_aug_s, k_aug2_s, y_augA, k_augA_s, k_augA2_s, k_augA3_s, k_augA4_s, y_ife, k_ife_t, k_ife_f, y_for, y_forT, k_for_s, y_ret, k_ret_s, y_exp, k_exp_s, y_cont, y_try, k_var_s, z_cst, z_var, z_tab, z_bin, k_bin_s, k_bin2_s, z_neg, k_neg_s, z_inv, k_inv_s, z_not, k_not_b, z_ife, k_ifE_t, k_ifE_f, k_bool_s, z_cmp, k_cmp_s, z_bop, k_bop_tt, k_bop_tf, k_bop_ft, k_bop_ff, z_attr, k_attr_s, z_sub, k_sub_s, k_sub2_s, z_slice, k_slice_s, k_slice2_s, k_slice3_s, z_rev, k_rev_s, z_list, z_tup, k_list0, k_list1, k_list6, k_tup2, k_tup3, k_tup4, z_call, k_call_s, z_new, k_new_s, k_new2_s, z_bi, k_bi_s, z_meth, k_meth_s, k_meth2_s, k_meth3_s, lst_str, z_comp, z_nil, z_cons, k_cons_s, k_cons2_s, k_tst_s, c_one, k_one_s, c_cons, k_cc_s, k_cc2_t, k_cc2_f, t_val, k_val_s, t_not, k_tnot_s, t_bop, k_tbop_tt, k_tbop_tf, k_tbop_ft, k_tbop_ff, t_cmp, k_tcmp_s, i_nil, b_add, b_sub, b_and, b_or, b_xor, u_add, u_sub, u_or, u_xor, m_eq, m_ne, m_lt, m_le, m_gt, m_ge, m_seq, m_sne, v_bool, v_int, Bool.not_true, Bool.not_false, Option.join_some, g0, g1, g2, g3, g4, g5, g6, g7, g8, g9, g10, g11, s0, s1, s2, s3, s4, s5, s6, s7, s8, s9, s10, s11, f_write_row, e, gd, h1, bg, l2]
    exact ⟨_, rfl⟩
end Mine
namespace Mine
open PySem
structure Gro (σ σ' : AH) : Prop where
  le : σ.length ≤ σ'.length
  same : ∀ j, j < σ.length → σ'[j]? = σ[j]?
theorem Gro.refl (σ : AH) : Gro σ σ := ⟨Nat.le_refl _, fun _ _ => rfl⟩
theorem Gro.trans {a b c : AH} (h1 : Gro a b) (h2 : Gro b c) : Gro a c := ⟨Nat.le_trans h1.le h2.le, fun j hj => (h2.same j (Nat.lt_of_lt_of_le hj h1.le)).trans (h1.same j hj)⟩
theorem Gro.app (σ l : AH) : Gro σ (σ ++ l) := ⟨by rw [List.length_append]; lia, fun j hj => List.getElem?_append_left hj⟩
theorem Gro.get {a b : AH} (h : Gro a b) {j : Nat} {o : AO} (e : a[j]? = some o) : b[j]? = some o := by
  rw [h.same j (List.getElem?_eq_some_iff.mp e).1]; exact e
theorem Gro.geo {a b : AH} (h : Gro a b) (G : Geo a) : Geo b := fun i hi => by
  have h1 := G i hi
  rw [← h1]
  refine h.same _ ?_
  have : base[i]? = some (base[i]'(by show i < 57; lia)) := List.getElem?_eq_getElem _
  rw [this] at h1
  exact (List.getElem?_eq_some_iff.mp h1).1
theorem Gro.pos {a b : AH} (h : Gro a b) {p : Nat} {P : Pz} (H : PosAt a p P) : PosAt b p P :=
  ⟨h.get H.obj, h.get H.board, h.get H.kinds, h.get H.sides, h.get H.hist, H.len, H.lo⟩
theorem Gro.setNew {a b : AH} (h : Gro a b) {j : Nat} (hj : a.length ≤ j) (x : AO) : Gro a (b.set j x) := ⟨by rw [List.length_set]; exact h.le, fun i hi => by rw [List.getElem?_set_ne (by lia)]; exact h.same i hi⟩
theorem rowT_len : ∀ (cells : List Int) (g : Nat), (rowT cells g).length ≤ 2 * cells.length + 1
  | [], g => by
    have := gapT_len g
    rw [rowT]; simp only [List.length_nil]; lia
  | x :: r, g => by
    rw [rowT]
    have h1 := rowT_len r (g + 1)
    have h2 := rowT_len r 0
    have h3 := gapT_len g
    split
    · simp only [List.length_cons]; lia
    · simp only [List.length_append, List.length_cons]; lia
noncomputable def rwC (b : List Int) (k : Nat) : List Int := (b.take (7 * k + 7)).drop (7 * k)
theorem rw_fin : ∀ k : Fin 4, min (7 * k.val + 7) 28 - 7 * k.val = 7 := by decide
theorem rwC_len {b : List Int} (hl : b.length = 28) {k : Nat} (hk : k < 4) : (rwC b k).length = 7 := by
  unfold rwC; rw [List.length_drop, List.length_take, hl]; exact rw_fin ⟨k, hk⟩
theorem rwC_mem {b : List Int} {k : Nat} {x : Int} (h : x ∈ rwC b k) : x ∈ b := List.mem_of_mem_take (List.mem_of_mem_drop h)
noncomputable def brdT (b : List Int) : List Nat := joinL [47] [rowT (rwC b 3) 0, rowT (rwC b 2) 0, rowT (rwC b 1) 0, rowT (rwC b 0) 0]
theorem brdT_len {b : List Int} (hl : b.length = 28) : (brdT b).length ≤ 70 := by
  have h0 := rowT_len (rwC b 0) 0
  have h1 := rowT_len (rwC b 1) 0
  have h2 := rowT_len (rwC b 2) 0
  have h3 := rowT_len (rwC b 3) 0
  rw [rwC_len hl (by lia)] at h0 h1 h2 h3
  simp only [brdT, joinL, List.length_append, List.length_cons, List.length_nil]; lia
noncomputable def wbBody : ISs := .cons (.aug 3 .Sub (.var 1)) (.cons (.exp (.meth .append (.var 2) (.cons (.call 54
    (.cons (.slice (.var 0) (.var 3) (.bin .Add (.var 3) (.var 1))) (.nil))) (.nil)))) (.nil))
theorem idx_i (k : Int) : idxV (.int k) = if 0 ≤ k ∧ k < 100000 then some (some k.toNat) else Option.none := nr rfl
theorem slice_i {n : Nat} {lo hi : V} {l h : Option Nat} {σ : AH} (h1 : idxV lo = some l) (h2 : idxV hi = some h) :
    sliceV (.obj n) lo hi σ = (listAt σ n).bind fun vs => if vs.length ≤ lineL then some (.obj σ.length, σ ++ [.list (cutL vs l h)]) else Option.none := by
  delta sliceV; rw [h1, h2]
theorem slice_ok {σ : AH} {m at' : Nat} {vs : List V} (h : σ[m]? = some (.list vs)) (h1 : at' ≤ 1000) (h2 : vs.length ≤ 1000) : sliceV (.obj m) (.int (at' : Int)) (.int ((at' + 7 : Nat) : Int)) σ = some (.obj σ.length, σ ++ [.list ((vs.take (at' + 7)).drop at')]) := by
  have ix : ∀ a : Nat, a ≤ 2000 → idxV (.int (a : Int)) = some (some a) := fun a ha => by
    have c : (0 ≤ (a : Int) ∧ (a : Int) < 100000) := by lia
    rw [idx_i, if_pos c, Int.toNat_natCast]
  rw [slice_i (ix at' (by lia)) (ix (at' + 7) (by lia)), list_at σ h, Option.bind_some, if_pos (of_eq_true (ll_of (by lia)))]
  rfl
theorem wb_body (d : Nat) {σ : AH} {m n : Nat} {b : List Int} {ts : List (List Nat)} (hm : σ[m]? = some (.list (b.map .int))) (hn : σ[n]? = some (.list (ts.map .str))) (hl : b.length = 28) (hb : ∀ x ∈ b, CellOk x) (ht : ts.length ≤ 10) {k : Nat} (hk : k < 4) :
    bd (runF initOf tbl (d + 3)) wbBody [some (.obj m), some (.int 7), some (.obj n), some (.int ((7 * k + 7 : Nat) : Int))] σ =
      some (.next, [some (.obj m), some (.int 7), some (.obj n), some (.int ((7 * k : Nat) : Int))], (σ ++ [AO.list ((rwC b k).map .int)]).set n (AO.list ((ts ++ [rowT (rwC b k) 0]).map .str))) := by
  have e1 : ((7 * k + 7 : Nat) : Int) - 7 = ((7 * k : Nat) : Int) := by lia
  have e2 : ((7 * k : Nat) : Int) + 7 = ((7 * k + 7 : Nat) : Int) := by lia
  have sl := slice_ok (at' := 7 * k) hm (by lia) (by rw [List.length_map]; lia)
  have ec : ((b.map V.int).take (7 * k + 7)).drop (7 * k) = (rwC b k).map .int := by unfold rwC; rw [List.map_drop, List.map_take]
  rw [ec] at sl
  have wr := write_row_ok d (σ := σ ++ [.list ((rwC b k).map .int)]) (m := σ.length) (cells := rwC b k) (by delta listAt; rw [ap_get0]; rfl) (by rw [rwC_len hl hk]; lia) (fun x hx => hb x (rwC_mem hx))
  have lo := lst_obj σ hn
  have hn' : (σ ++ [.list ((rwC b k).map .int)])[n]? = some (.list (ts.map .str)) := (Gro.app σ _).get hn
  have ap := me_append _ (.str (rowT (rwC b k) 0)) hn' (by rw [List.length_map]; lia)
  rw [show ts.map V.str ++ [.str (rowT (rwC b k) 0)] = (ts ++ [rowT (rwC b k) 0]).map .str by rw [List.map_append]; rfl] at ap
  generalize runF initOf tbl (d + 3) = F at *
  simp only [y_nil, y_cons, k_seq_n, k_seq_r, k_seq_c, y_asg, k_asg_s, k_end_s, y_asgA, k_asgA_s, k_asgA2_s, y_unp, k_unp_s, k_unp2_s, k_unp3_s, y_unpA, k_unpA_s, k_unpA2_s, y_aug, k_aug_s, k_aug2_s, y_augA, k_augA_s, k_augA2_s, k_augA3_s, k_augA4_s, y_ife, k_ife_t, k_ife_f, y_for, y_forT, k_for_s, y_ret, k_ret_s, y_exp, k_exp_s, y_cont, y_try, k_var_s, z_cst, z_var, z_tab, z_bin, k_bin_s, k_bin2_s, z_neg, k_neg_s, z_inv, k_inv_s, z_not, k_not_b, z_ife, k_ifE_t, k_ifE_f, k_bool_s, z_cmp, k_cmp_s, z_bop, k_bop_tt, k_bop_tf, k_bop_ft, k_bop_ff, z_attr, k_attr_s, z_sub, k_sub_s, k_sub2_s, z_slice, k_slice_s, k_slice2_s, k_slice3_s, z_rev, k_rev_s, z_list, z_tup, k_list0, k_list1, k_list6, k_tup2, k_tup3, k_tup4, z_call, k_call_s, z_new, k_new_s, k_new2_s, z_bi, k_bi_s, z_meth, k_meth_s, k_meth2_s, k_meth3_s, lst_str, z_comp, z_nil, z_cons, k_cons_s, k_cons2_s, k_tst_s, c_one, k_one_s, c_cons, k_cc_s, k_cc2_t, k_cc2_f, t_val, k_val_s, t_not, k_tnot_s, t_bop, k_tbop_tt, k_tbop_tf, k_tbop_ft, k_tbop_ff, t_cmp, k_tcmp_s, i_nil, b_add, b_sub, b_and, b_or, b_xor, u_add, u_sub, u_or, u_xor, m_eq, m_ne, m_lt, m_le, m_gt, m_ge, m_seq, m_sne, v_bool, v_int, Bool.not_true, Bool.not_false, Option.join_some, g0, g1, g2, g3, g4, g5, g6, g7, g8, g9, g10, g11, s0, s1, s2, s3, s4, s5, s6, s7, s8, s9, s10, s11, y_asgS, k_asgS_s, k_asgS2_s, k_asgS3_s, y_augS, k_augS_s, k_augS2_s, k_augS3_s, k_augS4_s, k_augS5_s, y_augD, k_augD_s, k_augD2_s, k_augD3_s, k_augD4_s, z_dsub, k_dsub_s, bd, wbBody, e1, e2, lo, sl, wr, ap]
theorem while_t {t : LE → AH → Option (Bool × AH)} {b : LE → AH → Option (Fl × LE × AH)} {n : Nat} {env env2 : LE} {σ σ1 σ2 : AH} (h : t env σ = some (true, σ1)) (h2 : b env σ1 = some (.next, env2, σ2)) :
    whileF t b (n + 1) env σ = whileF t b n env2 σ2 := by
  show (t env σ).bind _ = _
  rw [h]
  show (b env σ1).bind _ = _
  rw [h2]; rfl
theorem while_f {t : LE → AH → Option (Bool × AH)} {b : LE → AH → Option (Fl × LE × AH)} {n : Nat} {env : LE} {σ σ1 : AH} (h : t env σ = some (false, σ1)) : whileF t b (n + 1) env σ = some (.next, env, σ1) := by
  show (t env σ).bind _ = _
  rw [h]; rfl
theorem y_while (F : FT) (env : LE) (σ : AH) (n : Nat) (t : IT) (body : ISs) : exS initOf F (.while_ n t body) env σ = whileF (tst F t) (bd F body) n env σ := nr rfl
theorem write_board_ok (d : Nat) {σ : AH} {m : Nat} {b : List Int} (hm : σ[m]? = some (.list (b.map .int))) (hl : b.length = 28) (hb : ∀ x ∈ b, CellOk x) :
    ∃ σ', runF initOf tbl (d + 4) 55 [.obj m, .int 7] σ = some (.str (brdT b), σ') ∧ Gro σ σ' := by
  have tt : ∀ (S : AH) (k : Nat), tst (runF initOf tbl (d + 3)) (.cmp (.var 3) (.one .Gt (.cst (.int 0)))) [some (.obj m), some (.int 7), some (.obj σ.length), some (.int ((k : Nat) : Int))] S = some (decide (0 < (k : Int)), S) := fun S k => by
    generalize runF initOf tbl (d + 3) = F at *
    simp only [y_nil, y_cons, k_seq_n, k_seq_r, k_seq_c, y_asg, k_asg_s, k_end_s, y_asgA, k_asgA_s, k_asgA2_s, y_unp, k_unp_s, k_unp2_s, k_unp3_s, y_unpA, k_unpA_s, k_unpA2_s, y_aug, k_aug_s, k_aug2_s, y_augA, k_augA_s, k_augA2_s, k_augA3_s, k_augA4_s, y_ife, k_ife_t, k_ife_f, y_for, y_forT, k_for_s, y_ret, k_ret_s, y_exp, k_exp_s, y_cont, y_try, k_var_s, z_cst, z_var, z_tab, z_bin, k_bin_s, k_bin2_s, z_neg, k_neg_s, z_inv, k_inv_s, z_not, k_not_b, z_ife, k_ifE_t, k_ifE_f, k_bool_s, z_cmp, k_cmp_s, z_bop, k_bop_tt, k_bop_tf, k_bop_ft, k_bop_ff, z_attr, k_attr_s, z_sub, k_sub_s, k_sub2_s, z_slice, k_slice_s, k_slice2_s, k_slice3_s, z_rev, k_rev_s, z_list, z_tup, k_list0, k_list1, k_list6, k_tup2, k_tup3, k_tup4, z_call, k_call_s, z_new, k_new_s, k_new2_s, z_bi, k_bi_s, z_meth, k_meth_s, k_meth2_s, k_meth3_s, lst_str, z_comp, z_nil, z_cons, k_cons_s, k_cons2_s, k_tst_s, c_one, k_one_s, c_cons, k_cc_s, k_cc2_t, k_cc2_f, t_val, k_val_s, t_not, k_tnot_s, t_bop, k_tbop_tt, k_tbop_tf, k_tbop_ft, k_tbop_ff, t_cmp, k_tcmp_s, i_nil, b_add, b_sub, b_and, b_or, b_xor, u_add, u_sub, u_or, u_xor, m_eq, m_ne, m_lt, m_le, m_gt, m_ge, m_seq, m_sne, v_bool, v_int, Bool.not_true, Bool.not_false, Option.join_some, g0, g1, g2, g3, g4, g5, g6, g7, g8, g9, g10, g11, s0, s1, s2, s3, s4, s5, s6, s7, s8, s9, s10, s11, y_asgS, k_asgS_s, k_asgS2_s, k_asgS3_s, y_augS, k_augS_s, k_augS2_s, k_augS3_s, k_augS4_s, k_augS5_s, y_augD, k_augD_s, k_augD2_s, k_augD3_s, k_augD4_s, z_dsub, k_dsub_s, tst]
  have m1 : m < σ.length := (List.getElem?_eq_some_iff.mp hm).1
  have step : ∀ (S : AH) (k : Nat) (ts : List (List Nat)) (n : Nat), k < 4 → ts.length ≤ 4 → Gro σ S → S[σ.length]? = some (.list (ts.map .str)) → ∃ S', whileF (tst (runF initOf tbl (d + 3)) (.cmp (.var 3) (.one .Gt (.cst (.int 0))))) (bd (runF initOf tbl (d + 3)) wbBody) (n + 1) [some (.obj m), some (.int 7), some (.obj σ.length), some (.int ((7 * k + 7 : Nat) : Int))] S
      = whileF (tst (runF initOf tbl (d + 3)) (.cmp (.var 3) (.one .Gt (.cst (.int 0))))) (bd (runF initOf tbl (d + 3)) wbBody) n [some (.obj m), some (.int 7), some (.obj σ.length), some (.int ((7 * k : Nat) : Int))] S'
      ∧ Gro σ S' ∧ S'[σ.length]? = some (.list ((ts ++ [rowT (rwC b k) 0]).map .str)) := fun S k ts n hk ht E hn => by
    have wb := wb_body d (E.get hm) hn hl hb (by lia) hk
    have t1 := tt S (7 * k + 7)
    rw [decide_eq_true (by lia)] at t1
    refine ⟨_, while_t t1 wb, (E.trans (Gro.app S _)).setNew (Nat.le_refl _) _, ?_⟩
    rw [List.getElem?_set_self]
    have := (List.getElem?_eq_some_iff.mp hn).1
    rw [List.length_append]; lia
  obtain ⟨S1, w1, E1, n1⟩ := step (σ ++ [.list []]) 3 [] 99 (by lia) (by simp) (Gro.app σ _) (ap_get0 σ _)
  obtain ⟨S2, w2, E2, n2⟩ := step S1 2 _ 98 (by lia) (by simp) E1 n1
  obtain ⟨S3, w3, E3, n3⟩ := step S2 1 _ 97 (by lia) (by simp) E2 n2
  obtain ⟨S4, w4, E4, n4⟩ := step S3 0 _ 96 (by lia) (by simp) E3 n3
  have t5 := tt S4 0
  have w5 : whileF (tst (runF initOf tbl (d + 3)) (.cmp (.var 3) (.one .Gt (.cst (.int 0))))) (bd (runF initOf tbl (d + 3)) wbBody) 96 _ S4 = _ := while_f (n := 95) t5
  have wf := ((w1.trans w2).trans (w3.trans w4)).trans w5
  have jo : methV .join (.str [47]) [.obj σ.length] S4 = some (.str (brdT b), S4) := by
    have h := me_join (s := [47]) S4 n4 ⟨?_, by simp, by decide⟩
    · exact h
    · have := brdT_len hl
      exact Nat.le_trans this (by lia)
  have bl := bi_len_l σ hm (by rw [List.length_map]; lia)
  have bl2 : biV .len [.obj m] (σ ++ [.list []]) = some (.int ((28 : Nat) : Int), σ ++ [.list []]) := by
    have := bi_len_l (σ ++ [.list []]) ((Gro.app σ _).get hm) (by rw [List.length_map]; lia)
    rw [List.length_map, hl] at this; exact this
  refine ⟨S4, ?_, E4⟩
  refine run_ret' (fn := f_write_board) rfl rfl ?_
  show ∃ env', exSs _ _ f_write_board.body ([some (.obj m), some (.int 7), none, none]) σ = _
  unfold wbBody at wf
  generalize runF initOf tbl (d + 3) = F at *
  simp only [y_nil, y_cons, k_seq_n, k_seq_r, k_seq_c, y_asg, k_asg_s, k_end_s, y_asgA, k_asgA_s, k_asgA2_s, y_unp, k_unp_s, k_unp2_s, k_unp3_s, y_unpA, k_unpA_s, k_unpA2_s, y_aug, k_aug_s, k_aug2_s, y_augA, k_augA_s, k_augA2_s, k_augA3_s, k_augA4_s, y_ife, k_ife_t, k_ife_f, y_for, y_forT, k_for_s, y_ret, k_ret_s, y_exp, k_exp_s, y_cont, y_try, k_var_s, z_cst, z_var, z_tab, z_bin, k_bin_s, k_bin2_s, z_neg, k_neg_s, z_inv, k_inv_s, z_not, k_not_b, z_ife, k_ifE_t, k_ifE_f, k_bool_s, z_cmp, k_cmp_s, z_bop, k_bop_tt, k_bop_tf, k_bop_ft, k_bop_ff, z_attr, k_attr_s, z_sub, k_sub_s, k_sub2_s, z_slice, k_slice_s, k_slice2_s, k_slice3_s, z_rev, k_rev_s, z_list, z_tup, k_list0, k_list1, k_list6, k_tup2, k_tup3, k_tup4, z_call, k_call_s, z_new, k_new_s, k_new2_s, z_bi, k_bi_s, z_meth, k_meth_s, k_meth2_s, k_meth3_s, lst_str, z_comp, z_nil, z_cons, k_cons_s, k_cons2_s, k_tst_s, c_one, k_one_s, c_cons, k_cc_s, k_cc2_t, k_cc2_f, t_val, k_val_s, t_not, k_tnot_s, t_bop, k_tbop_tt, k_tbop_tf, k_tbop_ft, k_tbop_ff, t_cmp, k_tcmp_s, i_nil, b_add, b_sub, b_and, b_or, b_xor, u_add, u_sub, u_or, u_xor, m_eq, m_ne, m_lt, m_le, m_gt, m_ge, m_seq, m_sne, v_bool, v_int, Bool.not_true, Bool.not_false, Option.join_some, g0, g1, g2, g3, g4, g5, g6, g7, g8, g9, g10, g11, s0, s1, s2, s3, s4, s5, s6, s7, s8, s9, s10, s11, y_asgS, k_asgS_s, k_asgS2_s, k_asgS3_s, y_augS, k_augS_s, k_augS2_s, k_augS3_s, k_augS4_s, k_augS5_s, y_augD, k_augD_s, k_augD2_s, k_augD3_s, k_augD4_s, z_dsub, k_dsub_s, f_write_board, y_while, bl2]
  rw [show ((28 : Nat) : Int) = ((7 * 3 + 7 : Nat) : Int) from rfl, wf]
  simp only [y_nil, y_cons, k_seq_n, k_seq_r, k_seq_c, y_asg, k_asg_s, k_end_s, y_asgA, k_asgA_s, k_asgA2_s, y_unp, k_unp_s, k_unp2_s, k_unp3_s, y_unpA, k_unpA_s, k_unpA2_s, y_aug, k_aug_s, k_aug2_s, y_augA, k_augA_s, k_augA2_s, k_augA3_s, k_augA4_s, y_ife, k_ife_t, k_ife_f, y_for, y_forT, k_for_s, y_ret, k_ret_s, y_exp, k_exp_s, y_cont, y_try, k_var_s, z_cst, z_var, z_tab, z_bin, k_bin_s, k_bin2_s, z_neg, k_neg_s, z_inv, k_inv_s, z_not, k_not_b, z_ife, k_ifE_t, k_ifE_f, k_bool_s, z_cmp, k_cmp_s, z_bop, k_bop_tt, k_bop_tf, k_bop_ft, k_bop_ff, z_attr, k_attr_s, z_sub, k_sub_s, k_sub2_s, z_slice, k_slice_s, k_slice2_s, k_slice3_s, z_rev, k_rev_s, z_list, z_tup, k_list0, k_list1, k_list6, k_tup2, k_tup3, k_tup4, z_call, k_call_s, z_new, k_new_s, k_new2_s, z_bi, k_bi_s, z_meth, k_meth_s, k_meth2_s, k_meth3_s, lst_str, z_comp, z_nil, z_cons, k_cons_s, k_cons2_s, k_tst_s, c_one, k_one_s, c_cons, k_cc_s, k_cc2_t, k_cc2_f, t_val, k_val_s, t_not, k_tnot_s, t_bop, k_tbop_tt, k_tbop_tf, k_tbop_ft, k_tbop_ff, t_cmp, k_tcmp_s, i_nil, b_add, b_sub, b_and, b_or, b_xor, u_add, u_sub, u_or, u_xor, m_eq, m_ne, m_lt, m_le, m_gt, m_ge, m_seq, m_sne, v_bool, v_int, Bool.not_true, Bool.not_false, Option.join_some, g0, g1, g2, g3, g4, g5, g6, g7, g8, g9, g10, g11, s0, s1, s2, s3, s4, s5, s6, s7, s8, s9, s10, s11, y_asgS, k_asgS_s, k_asgS2_s, k_asgS3_s, y_augS, k_augS_s, k_augS2_s, k_augS3_s, k_augS4_s, k_augS5_s, y_augD, k_augD_s, k_augD2_s, k_augD3_s, k_augD4_s, z_dsub, k_dsub_s, jo]
  exact ⟨_, rfl⟩
end Mine
namespace Mine
open PySem
noncomputable def rgtTab : List (List Nat) := [[45], [75], [81], [75, 81], [107], [75, 107], [81, 107], [75, 81, 107], [113], [75, 113], [81, 113], [75, 81, 113], [107, 113], [75, 107, 113], [81, 107, 113], [75, 81, 107, 113]]
noncomputable def rgtT (r : Nat) : List Nat := rgtTab.getD r []
theorem write_rights_ok (d : Nat) (σ : AH) : ∀ r : Nat, r < 16 → runF initOf tbl (d + 1) 56 [.int (r : Int)] σ = some (.str (rgtT r), σ)
  | 0, _ => by kernel_rfl | 1, _ => by kernel_rfl | 2, _ => by kernel_rfl | 3, _ => by kernel_rfl
  | 4, _ => by kernel_rfl | 5, _ => by kernel_rfl | 6, _ => by kernel_rfl | 7, _ => by kernel_rfl
  | 8, _ => by kernel_rfl | 9, _ => by kernel_rfl | 10, _ => by kernel_rfl | 11, _ => by kernel_rfl
  | 12, _ => by kernel_rfl | 13, _ => by kernel_rfl | 14, _ => by kernel_rfl | 15, _ => by kernel_rfl
  | n + 16, h => absurd h (by lia)
theorem rgtT_ok : ∀ r : Fin 16, (rgtT r.val).length ≤ 4 ∧ (32 ∈ rgtT r.val → False) := by decide
noncomputable def valL : List Nat → Nat → Nat
  | [], n => n
  | c :: r, n => valL r (n * 10 + (c - 48))
noncomputable def numOk (n : Nat) : Bool := let x := intText (n : Int)
  decide (x.length ≤ 3) && (match x with | [] => false | c :: r => (c != 48 || r.isEmpty)) && x.all (fun c => decide (48 ≤ c ∧ c ≤ 57)) && decide (valL x 0 = n)
theorem num_ok : ∀ n : Fin 301, numOk n.val = true := by decide +kernel
end Mine
namespace Mine
open PySem
theorem num_len {n : Nat} (h : n < 301) : (intText (n : Int)).length ≤ 3 := by
  have := num_ok ⟨n, h⟩
  simp only [numOk, Bool.and_eq_true, decide_eq_true_eq] at this
  exact this.1.1.1
noncomputable def sideT (s : Int) : List Nat := if s = 1 then [98] else [119]
noncomputable def fldT (b : List Int) (s : Int) (r : Nat) : List Nat := (((((brdT b ++ [32]) ++ sideT s) ++ [32]) ++ rgtT r) ++ [32]) ++ [45]
noncomputable def fenT (b : List Int) (s : Int) (r half full : Nat) : List Nat := (((fldT b s r ++ [32]) ++ intText half) ++ [32]) ++ intText full
theorem sideT_len (s : Int) : (sideT s).length = 1 := by unfold sideT; split <;> rfl
theorem fldT_len {b : List Int} (hl : b.length = 28) (s : Int) {r : Nat} (hr : r < 16) : (fldT b s r).length ≤ 79 := by
  have h1 := brdT_len hl
  have h2 := (rgtT_ok ⟨r, hr⟩).1
  have h3 := sideT_len s
  dsimp only at h2
  simp only [fldT, List.length_append, List.length_cons, List.length_nil]; lia
theorem write_fields_ok (d : Nat) {σ : AH} {p : Nat} {P : Pz} (G : Geo σ) (H : PosAt σ p P) {r : Nat} (hr : P.rights = r) (h16 : r < 16) (hs : P.side = 0 ∨ P.side = 1) (hb : ∀ x ∈ P.b, CellOk x) :
    ∃ σ', runF initOf tbl (d + 5) 57 [.obj p] σ = some (.str (fldT P.b P.side r), σ') ∧ Gro σ σ' := by
  have hobj := H.obj
  unfold posFs at hobj
  obtain ⟨gfs, e21, e7, _⟩ := geo21 G
  obtain ⟨σ', w, E⟩ := write_board_ok d H.board H.len hb
  have wr := write_rights_ok (d + 3) σ' r h16
  have a17 := attr_i (a := 17) σ hobj rfl
  have a15 := attr_i (a := 15) σ hobj rfl
  have a20 := attr_i (a := 20) σ hobj rfl
  have a18 := attr_i (a := 18) σ hobj rfl
  have a0 := attr_i (a := 0) σ e21 e7
  have a16 := attr_i (a := 16) σ' (E.get hobj) rfl
  rw [hr] at a16
  have em : decide ((0 : Int) ≤ -1) = false := by decide
  have l1 := brdT_len H.len
  have l2 := (rgtT_ok ⟨r, h16⟩).1
  have l3 := sideT_len P.side
  dsimp only at l2
  have c1 := b_str (a := brdT P.b) (b := [32]) σ' (by simp only [List.length_cons, List.length_nil]; lia)
  have c2 := b_str (a := brdT P.b ++ [32]) (b := sideT P.side) σ' (by simp only [List.length_append, List.length_cons, List.length_nil]; lia)
  have c3 := b_str (a := brdT P.b ++ [32] ++ sideT P.side) (b := [32]) σ' (by simp only [List.length_append, List.length_cons, List.length_nil]; lia)
  have c4 := b_str (a := brdT P.b ++ [32] ++ sideT P.side ++ [32]) (b := rgtT r) σ' (by simp only [List.length_append, List.length_cons, List.length_nil]; lia)
  have c5 := b_str (a := brdT P.b ++ [32] ++ sideT P.side ++ [32] ++ rgtT r) (b := [32]) σ' (by simp only [List.length_append, List.length_cons, List.length_nil]; lia)
  have c6 := b_str (a := brdT P.b ++ [32] ++ sideT P.side ++ [32] ++ rgtT r ++ [32]) (b := [45]) σ' (by simp only [List.length_append, List.length_cons, List.length_nil]; lia)
  refine ⟨σ', ?_, E⟩
  refine run_ret' (fn := f_write_fields) rfl rfl ?_
  show ∃ env', exSs _ _ f_write_fields.body ([some (.obj p), none, none]) σ = _
  generalize runF initOf tbl (d + 4) = F at *
  unfold fldT
  rcases hs with hs | hs
  · have ss : sideT P.side = [119] := by unfold sideT; rw [if_neg (by lia)]
    have dd : decide (P.side = 1) = false := decide_eq_false (by lia)
    rw [ss] at c2 c3 c4 c5 c6 ⊢
    simp only [y_nil, y_cons, k_seq_n, k_seq_r, k_seq_c, y_asg, k_asg_s, k_end_s, y_asgA, k_asgA_s, k_asgA2_s, y_unp, k_unp_s, k_unp2_s, k_unp3_s, y_unpA, k_unpA_s, k_unpA2_s, y_aug, k_aug_s, k_aug2_s, y_augA, k_augA_s, k_augA2_s, k_augA3_s, k_augA4_s, y_ife, k_ife_t, k_ife_f, y_for, y_forT, k_for_s, y_ret, k_ret_s, y_exp, k_exp_s, y_cont, y_try, k_var_s, z_cst, z_var, z_tab, z_bin, k_bin_s, k_bin2_s, z_neg, k_neg_s, z_inv, k_inv_s, z_not, k_not_b, z_ife, k_ifE_t, k_ifE_f, k_bool_s, z_cmp, k_cmp_s, z_bop, k_bop_tt, k_bop_tf, k_bop_ft, k_bop_ff, z_attr, k_attr_s, z_sub, k_sub_s, k_sub2_s, z_slice, k_slice_s, k_slice2_s, k_slice3_s, z_rev, k_rev_s, z_list, z_tup, k_list0, k_list1, k_list6, k_tup2, k_tup3, k_tup4, z_call, k_call_s, z_new, k_new_s, k_new2_s, z_bi, k_bi_s, z_meth, k_meth_s, k_meth2_s, k_meth3_s, lst_str, z_comp, z_nil, z_cons, k_cons_s, k_cons2_s, k_tst_s, c_one, k_one_s, c_cons, k_cc_s, k_cc2_t, k_cc2_f, t_val, k_val_s, t_not, k_tnot_s, t_bop, k_tbop_tt, k_tbop_tf, k_tbop_ft, k_tbop_ff, t_cmp, k_tcmp_s, i_nil, b_add, b_sub, b_and, b_or, b_xor, u_add, u_sub, u_or, u_xor, m_eq, m_ne, m_lt, m_le, m_gt, m_ge, m_seq, m_sne, v_bool, v_int, Bool.not_true, Bool.not_false, Option.join_some, g0, g1, g2, g3, g4, g5, g6, g7, g8, g9, g10, g11, s0, s1, s2, s3, s4, s5, s6, s7, s8, s9, s10, s11, f_write_fields, a17, a15, a20, a18, a0, em, dd, w, c1, c2, c3, a16, wr, c4, c5, c6]
    exact ⟨_, rfl⟩
  · have ss : sideT P.side = [98] := by unfold sideT; rw [if_pos (by lia)]
    have dd : decide (P.side = 1) = true := decide_eq_true (by lia)
    rw [ss] at c2 c3 c4 c5 c6 ⊢
    simp only [y_nil, y_cons, k_seq_n, k_seq_r, k_seq_c, y_asg, k_asg_s, k_end_s, y_asgA, k_asgA_s, k_asgA2_s, y_unp, k_unp_s, k_unp2_s, k_unp3_s, y_unpA, k_unpA_s, k_unpA2_s, y_aug, k_aug_s, k_aug2_s, y_augA, k_augA_s, k_augA2_s, k_augA3_s, k_augA4_s, y_ife, k_ife_t, k_ife_f, y_for, y_forT, k_for_s, y_ret, k_ret_s, y_exp, k_exp_s, y_cont, y_try, k_var_s, z_cst, z_var, z_tab, z_bin, k_bin_s, k_bin2_s, z_neg, k_neg_s, z_inv, k_inv_s, z_not, k_not_b, z_ife, k_ifE_t, k_ifE_f, k_bool_s, z_cmp, k_cmp_s, z_bop, k_bop_tt, k_bop_tf, k_bop_ft, k_bop_ff, z_attr, k_attr_s, z_sub, k_sub_s, k_sub2_s, z_slice, k_slice_s, k_slice2_s, k_slice3_s, z_rev, k_rev_s, z_list, z_tup, k_list0, k_list1, k_list6, k_tup2, k_tup3, k_tup4, z_call, k_call_s, z_new, k_new_s, k_new2_s, z_bi, k_bi_s, z_meth, k_meth_s, k_meth2_s, k_meth3_s, lst_str, z_comp, z_nil, z_cons, k_cons_s, k_cons2_s, k_tst_s, c_one, k_one_s, c_cons, k_cc_s, k_cc2_t, k_cc2_f, t_val, k_val_s, t_not, k_tnot_s, t_bop, k_tbop_tt, k_tbop_tf, k_tbop_ft, k_tbop_ff, t_cmp, k_tcmp_s, i_nil, b_add, b_sub, b_and, b_or, b_xor, u_add, u_sub, u_or, u_xor, m_eq, m_ne, m_lt, m_le, m_gt, m_ge, m_seq, m_sne, v_bool, v_int, Bool.not_true, Bool.not_false, Option.join_some, g0, g1, g2, g3, g4, g5, g6, g7, g8, g9, g10, g11, s0, s1, s2, s3, s4, s5, s6, s7, s8, s9, s10, s11, f_write_fields, a17, a15, a20, a18, a0, em, dd, w, c1, c2, c3, a16, wr, c4, c5, c6]
    exact ⟨_, rfl⟩
theorem write_fen_ok (d : Nat) {σ : AH} {p : Nat} {P : Pz} (G : Geo σ) (H : PosAt σ p P) {r h f : Nat} (hr : P.rights = r) (h16 : r < 16) (hs : P.side = 0 ∨ P.side = 1) (hb : ∀ x ∈ P.b, CellOk x) (hh : P.half = h) (hh2 : h < 301) (hf : P.full = f) (hf2 : f < 301) :
    ∃ σ', runF initOf tbl (d + 6) 58 [.obj p] σ = some (.str (fenT P.b P.side r h f), σ') ∧ Gro σ σ' := by
  have hobj := H.obj
  unfold posFs at hobj
  obtain ⟨σ', w, E⟩ := write_fields_ok d G H hr h16 hs hb
  have a23 := attr_i (a := 23) σ' (E.get hobj) rfl
  have a3 := attr_i (a := 3) σ' (E.get hobj) rfl
  rw [hh] at a23
  rw [hf] at a3
  have l0 := fldT_len H.len P.side h16
  have l1 := num_len hh2
  have l2 := num_len hf2
  have b1 := bi_str (g := h) σ' (by lia)
  have b2 := bi_str (g := f) σ' (by lia)
  have c1 := b_str (a := fldT P.b P.side r) (b := [32]) σ' (by simp only [List.length_cons, List.length_nil]; lia)
  have c2 := b_str (a := fldT P.b P.side r ++ [32]) (b := intText h) σ' (by simp only [List.length_append, List.length_cons, List.length_nil]; lia)
  have c3 := b_str (a := fldT P.b P.side r ++ [32] ++ intText h) (b := [32]) σ' (by simp only [List.length_append, List.length_cons, List.length_nil]; lia)
  have c4 := b_str (a := fldT P.b P.side r ++ [32] ++ intText h ++ [32]) (b := intText f) σ' (by simp only [List.length_append, List.length_cons, List.length_nil]; lia)
  refine ⟨σ', ?_, E⟩
  refine run_ret' (fn := f_write_fen) rfl rfl ?_
  show ∃ env', exSs _ _ f_write_fen.body ([some (.obj p)]) σ = _
  generalize runF initOf tbl (d + 5) = F at *
  unfold fenT
  simp only [y_nil, y_cons, k_seq_n, k_seq_r, k_seq_c, y_asg, k_asg_s, k_end_s, y_asgA, k_asgA_s, k_asgA2_s, y_unp, k_unp_s, k_unp2_s, k_unp3_s, y_unpA, k_unpA_s, k_unpA2_s, y_aug, k_aug_s, k_aug2_s, y_augA, k_augA_s, k_augA2_s, k_augA3_s, k_augA4_s, y_ife, k_ife_t, k_ife_f, y_for, y_forT, k_for_s, y_ret, k_ret_s, y_exp, k_exp_s, y_cont, y_try, k_var_s, z_cst, z_var, z_tab, z_bin, k_bin_s, k_bin2_s, z_neg, k_neg_s, z_inv, k_inv_s, z_not, k_not_b, z_ife, k_ifE_t, k_ifE_f, k_bool_s, z_cmp, k_cmp_s, z_bop, k_bop_tt, k_bop_tf, k_bop_ft, k_bop_ff, z_attr, k_attr_s, z_sub, k_sub_s, k_sub2_s, z_slice, k_slice_s, k_slice2_s, k_slice3_s, z_rev, k_rev_s, z_list, z_tup, k_list0, k_list1, k_list6, k_tup2, k_tup3, k_tup4, z_call, k_call_s, z_new, k_new_s, k_new2_s, z_bi, k_bi_s, z_meth, k_meth_s, k_meth2_s, k_meth3_s, lst_str, z_comp, z_nil, z_cons, k_cons_s, k_cons2_s, k_tst_s, c_one, k_one_s, c_cons, k_cc_s, k_cc2_t, k_cc2_f, t_val, k_val_s, t_not, k_tnot_s, t_bop, k_tbop_tt, k_tbop_tf, k_tbop_ft, k_tbop_ff, t_cmp, k_tcmp_s, i_nil, b_add, b_sub, b_and, b_or, b_xor, u_add, u_sub, u_or, u_xor, m_eq, m_ne, m_lt, m_le, m_gt, m_ge, m_seq, m_sne, v_bool, v_int, Bool.not_true, Bool.not_false, Option.join_some, g0, g1, g2, g3, g4, g5, g6, g7, g8, g9, g10, g11, s0, s1, s2, s3, s4, s5, s6, s7, s8, s9, s10, s11, f_write_fen, w, a23, a3, b1, b2, c1, c2, c3, c4]
  exact ⟨_, rfl⟩
end Mine
namespace Mine
open PySem
section
variable {t : LE → AH → Option (Bool × AH)} {e : LE → AH → Option (V × AH)} {o : V} {vs : List V} {p : V → Bool} {g : V → V} {env : LE} {k : Nat} {σ0 : AH}
theorem compN_ext (hit : ∀ S, Gro σ0 S → ∀ i, itemAt o i S = some vs[i]?) (ht : ∀ S v, Gro σ0 S → v ∈ vs → ∃ S', t (env.set k (some v)) S = some (p v, S') ∧ Gro S S')
    (he : ∀ S v, Gro σ0 S → v ∈ vs → p v = true → ∃ S', e (env.set k (some v)) S = some (g v, S') ∧ Gro S S') : ∀ (fuel i : Nat) (S : AH), i + fuel = vs.length + 1 → i ≤ vs.length → Gro σ0 S →
    ∃ S', compN k t e o fuel i env S = some (((vs.drop i).filter p).map g, S') ∧ Gro S S'
  | 0, i, S, h1, h2, E => by lia
  | fuel + 1, i, S, h1, h2, E => by
    by_cases hi : i < vs.length
    · have hd : vs.drop i = vs[i] :: vs.drop (i + 1) := List.drop_eq_getElem_cons hi
      obtain ⟨S1, e1, E1⟩ := ht S vs[i] E (List.getElem_mem hi)
      show ∃ S', (itemAt o i S).bind _ = _ ∧ _
      rw [hit S E i, List.getElem?_eq_getElem hi]
      show ∃ S', (t (env.set k (some vs[i])) S).bind _ = _ ∧ _
      rw [e1, Option.bind_some]
      cases hp : p vs[i] with
      | true =>
        obtain ⟨S2, e2, E2⟩ := he S1 vs[i] (E.trans E1) (List.getElem_mem hi) hp
        obtain ⟨S3, e3, E3⟩ := compN_ext hit ht he fuel (i + 1) S2 (by lia) (by lia) ((E.trans E1).trans E2)
        refine ⟨S3, ?_, (E1.trans E2).trans E3⟩
        dsimp only
        rw [e2, Option.bind_some]
        dsimp only
        rw [e3, Option.bind_some, hd, List.filter_cons, hp]
        rfl
      | false =>
        obtain ⟨S3, e3, E3⟩ := compN_ext hit ht he fuel (i + 1) S1 (by lia) (by lia) (E.trans E1)
        refine ⟨S3, ?_, E1.trans E3⟩
        dsimp only
        rw [e3, hd, List.filter_cons, hp]
        rfl
    · refine ⟨S, ?_, Gro.refl S⟩
      show (itemAt o i S).bind _ = _
      rw [hit S E i, List.getElem?_eq_none (by lia), Option.bind_some, List.drop_eq_nil_of_le (by lia)]
      rfl
end
theorem comp_ok {F : FT} {o : V} {vs : List V} {p : V → Bool} {g : V → V} {env : LE} {k : Nat} {σ : AH} {ifs : ITs} {elt : IE} (hlen : lenIt o σ = some vs.length) (h1 : vs.length ≤ 1000)
    (hit : ∀ S, Gro σ S → ∀ i, itemAt o i S = some vs[i]?) (ht : ∀ S v, Gro σ S → v ∈ vs → ∃ S', evI initOf F ifs (env.set k (some v)) S = some (p v, S') ∧ Gro S S')
    (he : ∀ S v, Gro σ S → v ∈ vs → p v = true → ∃ S', evE initOf F elt (env.set k (some v)) S = some (g v, S') ∧ Gro S S') :
    ∃ S', k_comp F env k ifs elt (some (o, σ)) = some (.obj S'.length, S' ++ [.list ((vs.filter p).map g)]) ∧ Gro σ S' := by
  obtain ⟨S', e1, E1⟩ := compN_ext (t := fun env σ => evI initOf F ifs env σ) (e := fun env σ => evE initOf F elt env σ) hit ht he (vs.length + 1) 0 σ (by lia) (by lia) (Gro.refl σ)
  rw [List.drop_zero] at e1
  refine ⟨S', ?_, E1⟩
  have hf := List.length_filter_le p vs
  unfold k_comp
  rw [Option.bind_some, hlen, Option.bind_some, if_pos (of_eq_true (ll_of (by lia))), e1, Option.bind_some]
  exact if_pos (of_eq_true (ll_of (by rw [List.length_map]; lia)))
theorem item_str {x : List Nat} (ha : asciiL x = true) (i : Nat) (S : AH) : itemAt (.str x) i S = some ((x.map fun c => V.str [c])[i]?) := by
  rw [it_s ha, List.getElem?_map]
theorem len_str {x : List Nat} (ha : asciiL x = true) (S : AH) : lenIt (.str x) S = some (x.map fun c => V.str [c]).length := by
  rw [ln_s ha, List.length_map]
theorem ascii_lt {x : List Nat} (ha : asciiL x = true) {c : Nat} (h : c ∈ x) : c < 128 := by
  exact of_decide_eq_true (List.all_eq_true.mp ha c h)
noncomputable def ocC (c : Nat) : Nat := if c = uppL c then lowL c else uppL c
theorem filt_true {α : Type} (l : List α) : l.filter (fun _ => true) = l := List.filter_eq_self.mpr (fun _ _ => rfl)
theorem joinL_nil : ∀ x : List Nat, joinL [] (x.map fun c => [c]) = x
  | [] => rfl
  | [c] => rfl
  | c :: d :: r => by
    have := joinL_nil (d :: r)
    simp only [List.map_cons] at this ⊢
    rw [joinL_cons2, this]; rfl
theorem me_up {c : Nat} (h : c < 128) (σ : AH) : methV .upper (.str [c]) [] σ = some (.str [uppL c], σ) := if_pos ⟨h, rfl⟩
theorem me_low {c : Nat} (h : c < 128) (σ : AH) : methV .lower (.str [c]) [] σ = some (.str [lowL c], σ) := if_pos ⟨h, rfl⟩
theorem other_case_ok (d : Nat) {x : List Nat} (ha : asciiL x = true) (hl : x.length ≤ 200) (σ : AH) : ∃ σ', runF initOf tbl (d + 1) 61 [.str x] σ = some (.str (x.map ocC), σ') ∧ Gro σ σ' := by
  have cm := comp_ok (F := runF initOf tbl d) (o := .str x) (vs := x.map fun c => V.str [c]) (p := fun _ => true) (g := fun v => match v with | .str [c] => .str [ocC c] | _ => .none) (env := [some (.str x), none]) (k := 1) (σ := σ) (ifs := .nil)
    (elt := .ife (.cmp (.var 1) (.one .Eq (.meth .upper (.var 1) (.nil)))) (.meth .lower (.var 1) (.nil)) (.meth .upper (.var 1) (.nil))) (len_str ha σ) (by rw [List.length_map]; lia)
    (fun S _ i => item_str ha i S) (fun S v _ _ => ⟨S, i_nil _ _ _, Gro.refl S⟩)
    (fun S v _ hv _ => by
      obtain ⟨c, hc, rfl⟩ := List.mem_map.mp hv
      have c1 := ascii_lt ha hc
      refine ⟨S, ?_, Gro.refl S⟩
      have u1 := me_up c1 S
      have l1 := me_low c1 S
      dsimp only
      unfold ocC
      generalize runF initOf tbl d = F at *
      by_cases h : c = uppL c
      · have dd : decide (([c] : List Nat) = [uppL c]) = true := decide_eq_true (by rw [← h])
        rw [if_pos h]
        simp only [y_nil, y_cons, k_seq_n, k_seq_r, k_seq_c, y_asg, k_asg_s, k_end_s, y_asgA, k_asgA_s, k_asgA2_s, y_unp, k_unp_s, k_unp2_s, k_unp3_s, y_unpA, k_unpA_s, k_unpA2_s, y_aug, k_aug_s, k_aug2_s, y_augA, k_augA_s, k_augA2_s, k_augA3_s, k_augA4_s, y_ife, k_ife_t, k_ife_f, y_for, y_forT, k_for_s, y_ret, k_ret_s, y_exp, k_exp_s, y_cont, y_try, k_var_s, z_cst, z_var, z_tab, z_bin, k_bin_s, k_bin2_s, z_neg, k_neg_s, z_inv, k_inv_s, z_not, k_not_b, z_ife, k_ifE_t, k_ifE_f, k_bool_s, z_cmp, k_cmp_s, z_bop, k_bop_tt, k_bop_tf, k_bop_ft, k_bop_ff, z_attr, k_attr_s, z_sub, k_sub_s, k_sub2_s, z_slice, k_slice_s, k_slice2_s, k_slice3_s, z_rev, k_rev_s, z_list, z_tup, k_list0, k_list1, k_list6, k_tup2, k_tup3, k_tup4, z_call, k_call_s, z_new, k_new_s, k_new2_s, z_bi, k_bi_s, z_meth, k_meth_s, k_meth2_s, k_meth3_s, lst_str, z_comp, z_nil, z_cons, k_cons_s, k_cons2_s, k_tst_s, c_one, k_one_s, c_cons, k_cc_s, k_cc2_t, k_cc2_f, t_val, k_val_s, t_not, k_tnot_s, t_bop, k_tbop_tt, k_tbop_tf, k_tbop_ft, k_tbop_ff, t_cmp, k_tcmp_s, i_nil, b_add, b_sub, b_and, b_or, b_xor, u_add, u_sub, u_or, u_xor, m_eq, m_ne, m_lt, m_le, m_gt, m_ge, m_seq, m_sne, v_bool, v_int, Bool.not_true, Bool.not_false, Option.join_some, g0, g1, g2, g3, g4, g5, g6, g7, g8, g9, g10, g11, s0, s1, s2, s3, s4, s5, s6, s7, s8, s9, s10, s11, u1, l1, dd]
      · have dd : decide (([c] : List Nat) = [uppL c]) = false := decide_eq_false (fun z => h (by injection z))
        rw [if_neg h]
        simp only [y_nil, y_cons, k_seq_n, k_seq_r, k_seq_c, y_asg, k_asg_s, k_end_s, y_asgA, k_asgA_s, k_asgA2_s, y_unp, k_unp_s, k_unp2_s, k_unp3_s, y_unpA, k_unpA_s, k_unpA2_s, y_aug, k_aug_s, k_aug2_s, y_augA, k_augA_s, k_augA2_s, k_augA3_s, k_augA4_s, y_ife, k_ife_t, k_ife_f, y_for, y_forT, k_for_s, y_ret, k_ret_s, y_exp, k_exp_s, y_cont, y_try, k_var_s, z_cst, z_var, z_tab, z_bin, k_bin_s, k_bin2_s, z_neg, k_neg_s, z_inv, k_inv_s, z_not, k_not_b, z_ife, k_ifE_t, k_ifE_f, k_bool_s, z_cmp, k_cmp_s, z_bop, k_bop_tt, k_bop_tf, k_bop_ft, k_bop_ff, z_attr, k_attr_s, z_sub, k_sub_s, k_sub2_s, z_slice, k_slice_s, k_slice2_s, k_slice3_s, z_rev, k_rev_s, z_list, z_tup, k_list0, k_list1, k_list6, k_tup2, k_tup3, k_tup4, z_call, k_call_s, z_new, k_new_s, k_new2_s, z_bi, k_bi_s, z_meth, k_meth_s, k_meth2_s, k_meth3_s, lst_str, z_comp, z_nil, z_cons, k_cons_s, k_cons2_s, k_tst_s, c_one, k_one_s, c_cons, k_cc_s, k_cc2_t, k_cc2_f, t_val, k_val_s, t_not, k_tnot_s, t_bop, k_tbop_tt, k_tbop_tf, k_tbop_ft, k_tbop_ff, t_cmp, k_tcmp_s, i_nil, b_add, b_sub, b_and, b_or, b_xor, u_add, u_sub, u_or, u_xor, m_eq, m_ne, m_lt, m_le, m_gt, m_ge, m_seq, m_sne, v_bool, v_int, Bool.not_true, Bool.not_false, Option.join_some, g0, g1, g2, g3, g4, g5, g6, g7, g8, g9, g10, g11, s0, s1, s2, s3, s4, s5, s6, s7, s8, s9, s10, s11, u1, l1, dd])
  obtain ⟨S, e1, E1⟩ := cm
  have hm : ((x.map fun c => V.str [c]).filter fun _ => true).map (fun v => match v with | .str [c] => V.str [ocC c] | _ => .none) = ((x.map ocC).map fun c => [c]).map V.str := by
    rw [filt_true, List.map_map, List.map_map, List.map_map]; rfl
  rw [hm] at e1
  have jo := me_join (s := []) (n := S.length) (S ++ [AO.list (((x.map ocC).map fun c => [c]).map V.str)]) (by rw [ap_get0]; rfl) ⟨by rw [joinL_nil, List.length_map]; lia, by rw [List.length_map, List.length_map]; lia, by decide⟩
  rw [joinL_nil] at jo
  refine ⟨S ++ [AO.list (((x.map ocC).map fun c => [c]).map V.str)], ?_, E1.trans (Gro.app S _)⟩
  refine run_ret' (fn := f_law_other_case) rfl rfl ?_
  show ∃ env', exSs _ _ f_law_other_case.body ([some (.str x), none]) σ = _
  generalize runF initOf tbl d = F at *
  simp only [y_nil, y_cons, k_seq_n, k_seq_r, k_seq_c, y_asg, k_asg_s, k_end_s, y_asgA, k_asgA_s, k_asgA2_s, y_unp, k_unp_s, k_unp2_s, k_unp3_s, y_unpA, k_unpA_s, k_unpA2_s, y_aug, k_aug_s, k_aug2_s, y_augA, k_augA_s, k_augA2_s, k_augA3_s, k_augA4_s, y_ife, k_ife_t, k_ife_f, y_for, y_forT, k_for_s, y_ret, k_ret_s, y_exp, k_exp_s, y_cont, y_try, k_var_s, z_cst, z_var, z_tab, z_bin, k_bin_s, k_bin2_s, z_neg, k_neg_s, z_inv, k_inv_s, z_not, k_not_b, z_ife, k_ifE_t, k_ifE_f, k_bool_s, z_cmp, k_cmp_s, z_bop, k_bop_tt, k_bop_tf, k_bop_ft, k_bop_ff, z_attr, k_attr_s, z_sub, k_sub_s, k_sub2_s, z_slice, k_slice_s, k_slice2_s, k_slice3_s, z_rev, k_rev_s, z_list, z_tup, k_list0, k_list1, k_list6, k_tup2, k_tup3, k_tup4, z_call, k_call_s, z_new, k_new_s, k_new2_s, z_bi, k_bi_s, z_meth, k_meth_s, k_meth2_s, k_meth3_s, lst_str, z_comp, z_nil, z_cons, k_cons_s, k_cons2_s, k_tst_s, c_one, k_one_s, c_cons, k_cc_s, k_cc2_t, k_cc2_f, t_val, k_val_s, t_not, k_tnot_s, t_bop, k_tbop_tt, k_tbop_tf, k_tbop_ft, k_tbop_ff, t_cmp, k_tcmp_s, i_nil, b_add, b_sub, b_and, b_or, b_xor, u_add, u_sub, u_or, u_xor, m_eq, m_ne, m_lt, m_le, m_gt, m_ge, m_seq, m_sne, v_bool, v_int, Bool.not_true, Bool.not_false, Option.join_some, g0, g1, g2, g3, g4, g5, g6, g7, g8, g9, g10, g11, s0, s1, s2, s3, s4, s5, s6, s7, s8, s9, s10, s11, f_law_other_case, e1, jo]
  exact ⟨_, rfl⟩
end Mine
namespace Mine
open PySem
theorem split_none {c : Nat} : ∀ {x : List Nat}, (c ∈ x → False) → splitL c x = [x]
  | [], _ => rfl
  | d :: r, h => by
    rw [splitL_cons, if_neg (fun e => h (by rw [e]; exact List.mem_cons_self)), split_none (fun m => h (List.mem_cons_of_mem _ m))]
theorem split_cons {c : Nat} {y : List Nat} : ∀ {x : List Nat}, (c ∈ x → False) → splitL c (x ++ c :: y) = x :: splitL c y
  | [], _ => by
    rw [List.nil_append, splitL_cons, if_pos rfl]
  | d :: r, h => by
    rw [List.cons_append, splitL_cons, if_neg (fun e => h (by rw [e]; exact List.mem_cons_self)), split_cons (fun m => h (List.mem_cons_of_mem _ m))]
noncomputable def rowCh (c : Nat) : Prop := (49 ≤ c ∧ c ≤ 57) ∨ (c ∈ [80, 78, 66, 82, 81, 75, 112, 110, 98, 114, 113, 107])
theorem letC_fin : ∀ sd : Fin 2, ∀ k : Fin 7, 1 ≤ k.val → letC ((sd.val : Int) * 8 + (k.val : Int)) ∈ [80, 78, 66, 82, 81, 75, 112, 110, 98, 114, 113, 107] ∧ ocC (letC ((sd.val : Int) * 8 + (k.val : Int))) = letC (((1 - sd.val : Nat) : Int) * 8 + (k.val : Int)) := by decide +kernel
theorem letC_in {x : Int} (h : CellOk x) (h0 : x ≠ 0) : letC x ∈ [80, 78, 66, 82, 81, 75, 112, 110, 98, 114, 113, 107] := by
  rcases h with rfl | ⟨sd, k, h1, h2, h3, rfl⟩
  · exact absurd rfl h0
  · exact (letC_fin ⟨sd, h1⟩ ⟨k, by lia⟩ h2).1
theorem letC_oc {x : Int} (h : CellOk x) (h0 : x ≠ 0) : ocC (letC x) = letC (flipP x) := by
  rcases h with rfl | ⟨sd, k, h1, h2, h3, rfl⟩
  · exact absurd rfl h0
  · rw [flip_is h1 ⟨h2, h3⟩]; exact (letC_fin ⟨sd, h1⟩ ⟨k, by lia⟩ h2).2
theorem gap_oc : ∀ g : Fin 10, ocC (48 + g.val) = 48 + g.val := by decide
theorem gapT_oc {g : Nat} (h : g < 10) : (gapT g).map ocC = gapT g := by
  unfold gapT
  split
  · rfl
  · exact congrArg (fun z => [z]) (gap_oc ⟨g, h⟩)
theorem flip_ne {x : Int} (h : CellOk x) (h0 : x ≠ 0) : flipP x ≠ 0 := by
  rcases h with rfl | ⟨sd, k, h1, h2, h3, rfl⟩
  · exact absurd rfl h0
  · rw [flip_is h1 ⟨h2, h3⟩]; lia
theorem rowT_ch : ∀ (cells : List Int) (g : Nat), (∀ x ∈ cells, CellOk x) → g + cells.length < 10 → ∀ c ∈ rowT cells g, rowCh c
  | [], g, _, hg, c, hc => by
    rw [rowT] at hc
    unfold gapT at hc
    split at hc
    · cases hc
    · rw [List.mem_singleton] at hc
      subst hc
      simp only [List.length_nil] at hg
      exact .inl ⟨by lia, by lia⟩
  | x :: r, g, hx, hg, c, hc => by
    simp only [List.length_cons] at hg
    rw [rowT] at hc
    split at hc
    · exact rowT_ch r (g + 1) (fun y hy => hx y (List.mem_cons_of_mem _ hy)) (by lia) c hc
    · rename_i h0
      rcases List.mem_append.mp hc with h | h
      · unfold gapT at h
        split at h
        · cases h
        · rw [List.mem_singleton] at h
          subst h
          exact .inl ⟨by lia, by lia⟩
      · rcases List.mem_cons.mp h with rfl | h
        · exact .inr (letC_in (hx x List.mem_cons_self) h0)
        · exact rowT_ch r 0 (fun y hy => hx y (List.mem_cons_of_mem _ hy)) (by lia) c h
theorem rowT_oc : ∀ (cells : List Int) (g : Nat), (∀ x ∈ cells, CellOk x) → g + cells.length < 10 → (rowT cells g).map ocC = rowT (cells.map flipP) g
  | [], g, _, hg => by
    rw [rowT, List.map_nil, rowT, gapT_oc (by simp only [List.length_nil] at hg; lia)]
  | x :: r, g, hx, hg => by
    simp only [List.length_cons] at hg
    have hx0 := hx x List.mem_cons_self
    have ih1 := rowT_oc r (g + 1) (fun y hy => hx y (List.mem_cons_of_mem _ hy)) (by lia)
    have ih2 := rowT_oc r 0 (fun y hy => hx y (List.mem_cons_of_mem _ hy)) (by lia)
    rw [List.map_cons, rowT, rowT]
    by_cases h0 : x = 0
    · rw [if_pos h0, if_pos (by rw [h0]; rfl), ih1]
    · rw [if_neg h0, if_neg (flip_ne hx0 h0), List.map_append, List.map_cons, gapT_oc (by lia), letC_oc hx0 h0, ih2]
theorem rowCh_ne {c : Nat} (h : rowCh c) : c ≠ 32 ∧ c ≠ 47 ∧ c < 128 := by
  rcases h with h | h
  · lia
  · revert c; decide
theorem ts_fin : ∀ (k : Fin 4) (i : Fin 7), tsq (7 * k.val + i.val) = 7 * (3 - k.val) + i.val ∧ 7 * (3 - k.val) + i.val < 28 ∧ 7 * k.val + i.val < 28 := by decide
theorem rwC_turn {b : List Int} (hl : b.length = 28) {k : Nat} (hk : k < 4) : rwC (turnB b) k = (rwC b (3 - k)).map flipP := by
  apply List.ext_getElem?
  intro i
  have tl : (turnB b).length = 28 := tb_len b 28
  by_cases hi : i < 7
  · have e1 : (rwC (turnB b) k)[i]? = (turnB b)[7 * k + i]? := by
      unfold rwC; rw [List.getElem?_drop, List.getElem?_take, if_pos (by lia)]
    have e2 : (rwC b (3 - k))[i]? = b[7 * (3 - k) + i]? := by
      unfold rwC; rw [List.getElem?_drop, List.getElem?_take, if_pos (by lia)]
    obtain ⟨ts, t1, t2⟩ := ts_fin ⟨k, hk⟩ ⟨i, hi⟩
    dsimp only at ts t1 t2
    rw [e1, turnB_get t2, List.getElem?_map, e2, ts, List.getD_eq_getElem?_getD, List.getElem?_eq_getElem (show 7 * (3 - k) + i < b.length by rw [hl]; exact t1)]
    rfl
  · rw [List.getElem?_eq_none (by rw [rwC_len tl hk]; lia), List.getElem?_eq_none (by rw [List.length_map, rwC_len hl (by lia)]; lia)]
theorem row_turn {b : List Int} (hl : b.length = 28) (hb : ∀ x ∈ b, CellOk x) {k : Nat} (hk : k < 4) : (rowT (rwC b (3 - k)) 0).map ocC = rowT (rwC (turnB b) k) 0 := by
  rw [rowT_oc _ _ (fun x hx => hb x (rwC_mem hx)) (by rw [rwC_len hl (by lia)]; lia), rwC_turn hl hk]
theorem row_ch {b : List Int} (hl : b.length = 28) (hb : ∀ x ∈ b, CellOk x) {k : Nat} (hk : k < 4) : ∀ c ∈ rowT (rwC b k) 0, rowCh c :=
  rowT_ch _ _ (fun x hx => hb x (rwC_mem hx)) (by rw [rwC_len hl hk]; lia)
theorem split_brd {b : List Int} (hl : b.length = 28) (hb : ∀ x ∈ b, CellOk x) : splitL 47 (brdT b) = [rowT (rwC b 3) 0, rowT (rwC b 2) 0, rowT (rwC b 1) 0, rowT (rwC b 0) 0] := by
  have n : ∀ k, k < 4 → (47 ∈ rowT (rwC b k) 0 → False) := fun k hk h => (rowCh_ne (row_ch hl hb hk _ h)).2.1 rfl
  simp only [brdT, joinL, List.append_assoc, List.cons_append, List.nil_append]
  rw [split_cons (n 3 (by lia)), split_cons (n 2 (by lia)), split_cons (n 1 (by lia)), split_none (n 0 (by lia))]
theorem brd_ne {b : List Int} (hl : b.length = 28) (hb : ∀ x ∈ b, CellOk x) {c : Nat} (h : c ∈ brdT b) : c ≠ 32 ∧ c < 128 := by
  have n : ∀ k, k < 4 → c ∈ rowT (rwC b k) 0 → c ≠ 32 ∧ c < 128 := fun k hk h => by have := rowCh_ne (row_ch hl hb hk _ h); exact ⟨this.1, this.2.2⟩
  simp only [brdT, joinL, List.mem_append, List.mem_singleton] at h
  rcases h with (h | h) | ((h | h) | ((h | h) | h))
  · exact n 3 (by lia) h
  · subst h; decide
  · exact n 2 (by lia) h
  · subst h; decide
  · exact n 1 (by lia) h
  · subst h; decide
  · exact n 0 (by lia) h
theorem num_dig {n : Nat} (h : n < 301) {c : Nat} (hc : c ∈ intText (n : Int)) : 48 ≤ c ∧ c ≤ 57 := by
  have := num_ok ⟨n, h⟩
  simp only [numOk, Bool.and_eq_true, decide_eq_true_eq, List.all_eq_true] at this
  exact this.1.2 c hc
theorem side_ne (s : Int) : 32 ∈ sideT s → False := by unfold sideT; split <;> decide
theorem split_fen {b : List Int} (hl : b.length = 28) (hb : ∀ x ∈ b, CellOk x) (s : Int) {r h f : Nat} (hr : r < 16) (hh : h < 301) (hf : f < 301) :
    splitL 32 (fenT b s r h f) = [brdT b, sideT s, rgtT r, [45], intText h, intText f] := by
  have n1 : 32 ∈ brdT b → False := fun z => (brd_ne hl hb z).1 rfl
  have n3 := (rgtT_ok ⟨r, hr⟩).2
  have n5 : 32 ∈ intText h → False := fun z => by have := num_dig hh z; lia
  have n6 : 32 ∈ intText f → False := fun z => by have := num_dig hf z; lia
  simp only [fenT, fldT, List.append_assoc, List.cons_append, List.nil_append]
  rw [split_cons n1, split_cons (side_ne s), split_cons n3]
  rw [show 45 :: 32 :: (intText (h : Int) ++ 32 :: intText (f : Int)) = [45] ++ 32 :: (intText (h : Int) ++ 32 :: intText (f : Int)) from rfl, split_cons (by decide), split_cons n5, split_none n6]
theorem fen_len {b : List Int} (hl : b.length = 28) (s : Int) {r h f : Nat} (hr : r < 16) (hh : h < 301) (hf : f < 301) : (fenT b s r h f).length ≤ 87 := by
  have l0 := fldT_len hl s hr
  have l1 := num_len hh
  have l2 := num_len hf
  simp only [fenT, List.length_append, List.length_cons, List.length_nil]; lia
end Mine
namespace Mine
open PySem
theorem rev_ok {σ : AH} {n : Nat} {vs : List V} (h : σ[n]? = some (.list vs)) (h1 : vs.length ≤ 1000) : revV (.obj n) σ = some (.obj σ.length, σ ++ [.list vs.reverse]) := by
  show (listAt σ n).bind _ = _
  rw [list_at σ h]
  exact if_pos (of_eq_true (ll_of (by lia)))
theorem item_obj {σ S : AH} {n : Nat} {vs : List V} (h : σ[n]? = some (.list vs)) (E : Gro σ S) (i : Nat) : itemAt (.obj n) i S = some vs[i]? := by
  show (listAt S n).map _ = _
  rw [list_at S (E.get h)]; rfl
theorem len_obj {σ : AH} {n : Nat} {vs : List V} (h : σ[n]? = some (.list vs)) : lenIt (.obj n) σ = some vs.length := by
  show (listAt σ n).map _ = _
  rw [list_at σ h]; rfl
theorem i_one (F : FT) (t : IT) (env : LE) (σ S : AH) (b : Bool) (h : evT initOf F t env σ = some (b, S)) : evI initOf F (.cons t .nil) env σ = some (b, S) := by
  show (evT initOf F t env σ).bind _ = _
  rw [h, Option.bind_some]
  cases b
  · rfl
  · exact i_nil _ _ _
theorem joinL_map (s : List Nat) (x : List Nat) : joinL s [x] = x := rfl
noncomputable def swapR (r : Nat) : List Nat := [75, 81, 107, 113].filter fun c => (rgtT r).contains (ocC c)
theorem swapR_ok : ∀ r : Fin 16, (if swapR r.val = [] then [45] else swapR r.val) = rgtT (turnR r.val) := by decide
theorem law_turned_ok (d : Nat) {b : List Int} (hl : b.length = 28) (hb : ∀ x ∈ b, CellOk x) {s : Int} (hs : s = 0 ∨ s = 1) {r h f : Nat} (hr : r < 16) (hh : h < 301) (hf : f < 301) (σ : AH) :
    ∃ σ', runF initOf tbl (d + 2) 62 [.str (fenT b s r h f)] σ = some (.str (fenT (turnB b) (1 - s) (turnR r) h f), σ') ∧ Gro σ σ' := by
  have hlen := fen_len hl s hr hh hf
  have sp1 := me_split σ (fenT b s r h f) 32 (by lia)
  rw [split_fen hl hb s hr hh hf] at sp1
  obtain ⟨S1, eS1⟩ : ∃ S1 : AH, S1 = σ ++ [AO.list ([brdT b, sideT s, rgtT r, [45], intText h, intText f].map .str)] := ⟨_, rfl⟩
  have E1 : Gro σ S1 := by rw [eS1]; exact Gro.app _ _
  have u1 : unpV (.obj σ.length) S1 = some [.str (brdT b), .str (sideT s), .str (rgtT r), .str [45], .str (intText h), .str (intText f)] := list_at S1 (by rw [eS1, ap_get0]; rfl)
  rw [← eS1] at sp1
  have bl := brdT_len hl
  have sp2 := me_split S1 (brdT b) 47 (by lia)
  rw [split_brd hl hb] at sp2
  obtain ⟨S2, eS2⟩ : ∃ S2 : AH, S2 = S1 ++ [AO.list ([rowT (rwC b 3) 0, rowT (rwC b 2) 0, rowT (rwC b 1) 0, rowT (rwC b 0) 0].map .str)] := ⟨_, rfl⟩
  rw [← eS2] at sp2
  have E2 : Gro S1 S2 := by rw [eS2]; exact Gro.app _ _
  have h2 : S2[S1.length]? = some (.list ([rowT (rwC b 3) 0, rowT (rwC b 2) 0, rowT (rwC b 1) 0, rowT (rwC b 0) 0].map .str)) := by rw [eS2, ap_get0]; rfl
  have rv := rev_ok h2 (by simp)
  obtain ⟨S3, eS3⟩ : ∃ S3 : AH, S3 = S2 ++ [AO.list ([rowT (rwC b 3) 0, rowT (rwC b 2) 0, rowT (rwC b 1) 0, rowT (rwC b 0) 0].map V.str).reverse] := ⟨_, rfl⟩
  rw [← eS3] at rv
  have E3 : Gro S2 S3 := by rw [eS3]; exact Gro.app _ _
  have h3 : S3[S2.length]? = some (.list ([rowT (rwC b 0) 0, rowT (rwC b 1) 0, rowT (rwC b 2) 0, rowT (rwC b 3) 0].map .str)) := by rw [eS3, ap_get0]; rfl
  have asc : ∀ k, k < 4 → asciiL (rowT (rwC b k) 0) = true := fun k hk => by
    unfold asciiL
    rw [List.all_eq_true]
    exact fun c hc => decide_eq_true (rowCh_ne (row_ch hl hb hk c hc)).2.2
  have rl : ∀ k, k < 4 → (rowT (rwC b k) 0).length ≤ 15 := fun k hk => by
    have := rowT_len (rwC b k) 0
    rw [rwC_len hl hk] at this; lia
  have cm := comp_ok (F := runF initOf tbl (d + 1)) (o := .obj S2.length) (vs := [rowT (rwC b 0) 0, rowT (rwC b 1) 0, rowT (rwC b 2) 0, rowT (rwC b 3) 0].map .str) (p := fun _ => true) (g := fun v => match v with | .str x => .str (x.map ocC) | _ => .none)
    (env := [some (.str (fenT b s r h f)), some (.str (brdT b)), some (.str (sideT s)), some (.str (rgtT r)), some (.str [45]), some (.str (intText h)), some (.str (intText f)), none, none, none]) (k := 9) (σ := S3) (ifs := .nil)
    (elt := .call 61 (.cons (.var 9) .nil)) (len_obj h3) (by simp) (fun S E i => item_obj h3 E i) (fun S v _ _ => ⟨S, i_nil _ _ _, Gro.refl S⟩)
    (fun S v _ hv _ => by
      obtain ⟨x, hx, rfl⟩ := List.mem_map.mp hv
      have hx' : asciiL x = true ∧ x.length ≤ 200 := by
        simp only [List.mem_cons, List.not_mem_nil, or_false] at hx
        rcases hx with rfl | rfl | rfl | rfl
        · exact ⟨asc 0 (by lia), by have := rl 0 (by lia); lia⟩
        · exact ⟨asc 1 (by lia), by have := rl 1 (by lia); lia⟩
        · exact ⟨asc 2 (by lia), by have := rl 2 (by lia); lia⟩
        · exact ⟨asc 3 (by lia), by have := rl 3 (by lia); lia⟩
      obtain ⟨S', o1, oE⟩ := other_case_ok d hx'.1 hx'.2 S
      refine ⟨S', ?_, oE⟩
      dsimp only
      generalize runF initOf tbl (d + 1) = F at *
      simp only [y_nil, y_cons, k_seq_n, k_seq_r, k_seq_c, y_asg, k_asg_s, k_end_s, y_asgA, k_asgA_s, k_asgA2_s, y_unp, k_unp_s, k_unp2_s, k_unp3_s, y_unpA, k_unpA_s, k_unpA2_s, y_aug, k_aug_s, k_aug2_s, y_augA, k_augA_s, k_augA2_s, k_augA3_s, k_augA4_s, y_ife, k_ife_t, k_ife_f, y_for, y_forT, k_for_s, y_ret, k_ret_s, y_exp, k_exp_s, y_cont, y_try, k_var_s, z_cst, z_var, z_tab, z_bin, k_bin_s, k_bin2_s, z_neg, k_neg_s, z_inv, k_inv_s, z_not, k_not_b, z_ife, k_ifE_t, k_ifE_f, k_bool_s, z_cmp, k_cmp_s, z_bop, k_bop_tt, k_bop_tf, k_bop_ft, k_bop_ff, z_attr, k_attr_s, z_sub, k_sub_s, k_sub2_s, z_slice, k_slice_s, k_slice2_s, k_slice3_s, z_rev, k_rev_s, z_list, z_tup, k_list0, k_list1, k_list6, k_tup2, k_tup3, k_tup4, z_call, k_call_s, z_new, k_new_s, k_new2_s, z_bi, k_bi_s, z_meth, k_meth_s, k_meth2_s, k_meth3_s, lst_str, z_comp, z_nil, z_cons, k_cons_s, k_cons2_s, k_tst_s, c_one, k_one_s, c_cons, k_cc_s, k_cc2_t, k_cc2_f, t_val, k_val_s, t_not, k_tnot_s, t_bop, k_tbop_tt, k_tbop_tf, k_tbop_ft, k_tbop_ff, t_cmp, k_tcmp_s, i_nil, b_add, b_sub, b_and, b_or, b_xor, u_add, u_sub, u_or, u_xor, m_eq, m_ne, m_lt, m_le, m_gt, m_ge, m_seq, m_sne, v_bool, v_int, Bool.not_true, Bool.not_false, Option.join_some, g0, g1, g2, g3, g4, g5, g6, g7, g8, g9, g10, g11, s0, s1, s2, s3, s4, s5, s6, s7, s8, s9, s10, s11, o1])
  obtain ⟨S4, e4, E4⟩ := cm
  have hm : (([rowT (rwC b 0) 0, rowT (rwC b 1) 0, rowT (rwC b 2) 0, rowT (rwC b 3) 0].map V.str).filter fun _ => true).map (fun v => match v with | .str x => V.str (x.map ocC) | _ => .none)
      = [rowT (rwC (turnB b) 3) 0, rowT (rwC (turnB b) 2) 0, rowT (rwC (turnB b) 1) 0, rowT (rwC (turnB b) 0) 0].map V.str := by
    rw [filt_true]
    simp only [List.map_cons, List.map_nil]
    rw [row_turn hl hb (k := 3) (by lia), row_turn hl hb (k := 2) (by lia), row_turn hl hb (k := 1) (by lia), row_turn hl hb (k := 0) (by lia)]
  rw [hm] at e4
  have tl : (turnB b).length = 28 := tb_len b 28
  have tbl' := brdT_len tl
  obtain ⟨S5, eS5⟩ : ∃ S5 : AH, S5 = S4 ++ [AO.list ([rowT (rwC (turnB b) 3) 0, rowT (rwC (turnB b) 2) 0, rowT (rwC (turnB b) 1) 0, rowT (rwC (turnB b) 0) 0].map .str)] := ⟨_, rfl⟩
  rw [← eS5] at e4
  have E5 : Gro S4 S5 := by rw [eS5]; exact Gro.app _ _
  have j5 : methV .join (.str [47]) [.obj S4.length] S5 = some (.str (brdT (turnB b)), S5) := by
    have := me_join (s := [47]) (n := S4.length) (xs := [rowT (rwC (turnB b) 3) 0, rowT (rwC (turnB b) 2) 0, rowT (rwC (turnB b) 1) 0, rowT (rwC (turnB b) 0) 0]) S5 (by rw [eS5, ap_get0]; rfl) ⟨by unfold brdT at tbl'; lia, by simp, by decide⟩
    exact this
  have ak : asciiL [75, 81, 107, 113] = true := by decide
  have cm2 := comp_ok (F := runF initOf tbl (d + 1)) (o := .str [75, 81, 107, 113]) (vs := [75, 81, 107, 113].map fun c => V.str [c]) (p := fun v => match v with | .str [c] => (rgtT r).contains (ocC c) | _ => false) (g := fun v => v)
    (env := [some (.str (fenT b s r h f)), some (.str (brdT b)), some (.str (sideT s)), some (.str (rgtT r)), some (.str [45]), some (.str (intText h)), some (.str (intText f)), some (.str (brdT (turnB b))), none, none]) (k := 9) (σ := S5)
    (ifs := .cons (.cmp (.call 61 (.cons (.var 9) (.nil))) (.one .In (.var 3))) .nil) (elt := .var 9) (len_str ak S5) (by simp) (fun S _ i => item_str ak i S)
    (fun S v _ hv => by
      obtain ⟨c, hc, rfl⟩ := List.mem_map.mp hv
      have c1 := ascii_lt ak hc
      obtain ⟨S', o1, oE⟩ := other_case_ok d (x := [c]) (by simp [asciiL]; exact c1) (by simp) S
      refine ⟨S', i_one _ _ _ _ _ _ ?_, oE⟩
      rw [List.map_cons, List.map_nil] at o1
      dsimp only
      generalize runF initOf tbl (d + 1) = F at *
      simp only [y_nil, y_cons, k_seq_n, k_seq_r, k_seq_c, y_asg, k_asg_s, k_end_s, y_asgA, k_asgA_s, k_asgA2_s, y_unp, k_unp_s, k_unp2_s, k_unp3_s, y_unpA, k_unpA_s, k_unpA2_s, y_aug, k_aug_s, k_aug2_s, y_augA, k_augA_s, k_augA2_s, k_augA3_s, k_augA4_s, y_ife, k_ife_t, k_ife_f, y_for, y_forT, k_for_s, y_ret, k_ret_s, y_exp, k_exp_s, y_cont, y_try, k_var_s, z_cst, z_var, z_tab, z_bin, k_bin_s, k_bin2_s, z_neg, k_neg_s, z_inv, k_inv_s, z_not, k_not_b, z_ife, k_ifE_t, k_ifE_f, k_bool_s, z_cmp, k_cmp_s, z_bop, k_bop_tt, k_bop_tf, k_bop_ft, k_bop_ff, z_attr, k_attr_s, z_sub, k_sub_s, k_sub2_s, z_slice, k_slice_s, k_slice2_s, k_slice3_s, z_rev, k_rev_s, z_list, z_tup, k_list0, k_list1, k_list6, k_tup2, k_tup3, k_tup4, z_call, k_call_s, z_new, k_new_s, k_new2_s, z_bi, k_bi_s, z_meth, k_meth_s, k_meth2_s, k_meth3_s, lst_str, z_comp, z_nil, z_cons, k_cons_s, k_cons2_s, k_tst_s, c_one, k_one_s, c_cons, k_cc_s, k_cc2_t, k_cc2_f, t_val, k_val_s, t_not, k_tnot_s, t_bop, k_tbop_tt, k_tbop_tf, k_tbop_ft, k_tbop_ff, t_cmp, k_tcmp_s, i_nil, b_add, b_sub, b_and, b_or, b_xor, u_add, u_sub, u_or, u_xor, m_eq, m_ne, m_lt, m_le, m_gt, m_ge, m_seq, m_sne, v_bool, v_int, Bool.not_true, Bool.not_false, Option.join_some, g0, g1, g2, g3, g4, g5, g6, g7, g8, g9, g10, g11, s0, s1, s2, s3, s4, s5, s6, s7, s8, s9, s10, s11, o1, m_in])
    (fun S v _ hv _ => ⟨S, by
      generalize runF initOf tbl (d + 1) = F at *
      simp only [y_nil, y_cons, k_seq_n, k_seq_r, k_seq_c, y_asg, k_asg_s, k_end_s, y_asgA, k_asgA_s, k_asgA2_s, y_unp, k_unp_s, k_unp2_s, k_unp3_s, y_unpA, k_unpA_s, k_unpA2_s, y_aug, k_aug_s, k_aug2_s, y_augA, k_augA_s, k_augA2_s, k_augA3_s, k_augA4_s, y_ife, k_ife_t, k_ife_f, y_for, y_forT, k_for_s, y_ret, k_ret_s, y_exp, k_exp_s, y_cont, y_try, k_var_s, z_cst, z_var, z_tab, z_bin, k_bin_s, k_bin2_s, z_neg, k_neg_s, z_inv, k_inv_s, z_not, k_not_b, z_ife, k_ifE_t, k_ifE_f, k_bool_s, z_cmp, k_cmp_s, z_bop, k_bop_tt, k_bop_tf, k_bop_ft, k_bop_ff, z_attr, k_attr_s, z_sub, k_sub_s, k_sub2_s, z_slice, k_slice_s, k_slice2_s, k_slice3_s, z_rev, k_rev_s, z_list, z_tup, k_list0, k_list1, k_list6, k_tup2, k_tup3, k_tup4, z_call, k_call_s, z_new, k_new_s, k_new2_s, z_bi, k_bi_s, z_meth, k_meth_s, k_meth2_s, k_meth3_s, lst_str, z_comp, z_nil, z_cons, k_cons_s, k_cons2_s, k_tst_s, c_one, k_one_s, c_cons, k_cc_s, k_cc2_t, k_cc2_f, t_val, k_val_s, t_not, k_tnot_s, t_bop, k_tbop_tt, k_tbop_tf, k_tbop_ft, k_tbop_ff, t_cmp, k_tcmp_s, i_nil, b_add, b_sub, b_and, b_or, b_xor, u_add, u_sub, u_or, u_xor, m_eq, m_ne, m_lt, m_le, m_gt, m_ge, m_seq, m_sne, v_bool, v_int, Bool.not_true, Bool.not_false, Option.join_some, g0, g1, g2, g3, g4, g5, g6, g7, g8, g9, g10, g11, s0, s1, s2, s3, s4, s5, s6, s7, s8, s9, s10, s11], Gro.refl S⟩)
  obtain ⟨S6, e6, E6⟩ := cm2
  have hm2 : (([75, 81, 107, 113].map fun c => V.str [c]).filter fun v => match v with | .str [c] => (rgtT r).contains (ocC c) | _ => false).map (fun v => v) = ((swapR r).map fun c => [c]).map V.str := by
    rw [List.map_id']
    unfold swapR
    rw [List.map_map, List.filter_map]
    rfl
  rw [hm2] at e6
  obtain ⟨S7, eS7⟩ : ∃ S7 : AH, S7 = S6 ++ [AO.list (((swapR r).map fun c => [c]).map V.str)] := ⟨_, rfl⟩
  rw [← eS7] at e6
  have E7 : Gro S6 S7 := by rw [eS7]; exact Gro.app _ _
  have sl : (swapR r).length ≤ 4 := List.length_filter_le _ _
  have j7 : methV .join (.str []) [.obj S6.length] S7 = some (.str (swapR r), S7) := by
    have := me_join (s := []) (n := S6.length) (xs := (swapR r).map fun c => [c]) S7 (by rw [eS7, ap_get0]; rfl) ⟨by rw [joinL_nil]; lia, by rw [List.length_map]; lia, by decide⟩
    rw [joinL_nil] at this; exact this
  have sr := swapR_ok ⟨r, hr⟩
  dsimp only at sr
  have tr := (turnR_is ⟨r, hr⟩).2.1
  dsimp only at tr
  have fl := fen_len tl (1 - s) tr hh hf
  have jj : joinL [32] [brdT (turnB b), sideT (1 - s), rgtT (turnR r), [45], intText h, intText f] = fenT (turnB b) (1 - s) (turnR r) h f := by
    simp only [joinL, fenT, fldT, List.append_assoc]
  obtain ⟨S8, eS8⟩ : ∃ S8 : AH, S8 = S7 ++ [AO.list ([brdT (turnB b), sideT (1 - s), rgtT (turnR r), [45], intText h, intText f].map .str)] := ⟨_, rfl⟩
  have E8 : Gro S7 S8 := by rw [eS8]; exact Gro.app _ _
  have j8 : methV .join (.str [32]) [.obj S7.length] S8 = some (.str (fenT (turnB b) (1 - s) (turnR r) h f), S8) := by
    have := me_join (s := [32]) (n := S7.length) (xs := [brdT (turnB b), sideT (1 - s), rgtT (turnR r), [45], intText h, intText f]) S8 (by rw [eS8, ap_get0]; rfl) ⟨by rw [jj]; lia, by simp, by decide⟩
    rw [jj] at this; exact this
  have e8 : S7 ++ [AO.list [V.str (brdT (turnB b)), V.str (sideT (1 - s)), V.str (rgtT (turnR r)), V.str [45], V.str (intText h), V.str (intText f)]] = S8 := eS8.symm
  refine ⟨S8, ?_, (((E1.trans E2).trans (E3.trans E4)).trans (E5.trans E6)).trans (E7.trans E8)⟩
  refine run_ret' (fn := f_law_turned) rfl rfl ?_
  show ∃ env', exSs _ _ f_law_turned.body ([some (.str (fenT b s r h f)), none, none, none, none, none, none, none, none, none]) σ = _
  have st : ∀ F : FT, ∀ env : LE, evE initOf F (.ife (.cmp (.var 2) (.one .Eq (.cst (.str [119])))) (.cst (.str [98])) (.cst (.str [119]))) ([some (.str (fenT b s r h f)), some (.str (brdT b)), some (.str (sideT s))] ++ env) S7 = some (.str (sideT (1 - s)), S7) := fun F env => by
    rw [show ([some (.str (fenT b s r h f)), some (.str (brdT b)), some (.str (sideT s))] ++ env : LE) = some (.str (fenT b s r h f)) :: some (.str (brdT b)) :: some (.str (sideT s)) :: env from rfl]
    rcases hs with rfl | rfl
    · have d1 : decide (sideT 0 = [119]) = true := rfl
      simp only [y_nil, y_cons, k_seq_n, k_seq_r, k_seq_c, y_asg, k_asg_s, k_end_s, y_asgA, k_asgA_s, k_asgA2_s, y_unp, k_unp_s, k_unp2_s, k_unp3_s, y_unpA, k_unpA_s, k_unpA2_s, y_aug, k_aug_s, k_aug2_s, y_augA, k_augA_s, k_augA2_s, k_augA3_s, k_augA4_s, y_ife, k_ife_t, k_ife_f, y_for, y_forT, k_for_s, y_ret, k_ret_s, y_exp, k_exp_s, y_cont, y_try, k_var_s, z_cst, z_var, z_tab, z_bin, k_bin_s, k_bin2_s, z_neg, k_neg_s, z_inv, k_inv_s, z_not, k_not_b, z_ife, k_ifE_t, k_ifE_f, k_bool_s, z_cmp, k_cmp_s, z_bop, k_bop_tt, k_bop_tf, k_bop_ft, k_bop_ff, z_attr, k_attr_s, z_sub, k_sub_s, k_sub2_s, z_slice, k_slice_s, k_slice2_s, k_slice3_s, z_rev, k_rev_s, z_list, z_tup, k_list0, k_list1, k_list6, k_tup2, k_tup3, k_tup4, z_call, k_call_s, z_new, k_new_s, k_new2_s, z_bi, k_bi_s, z_meth, k_meth_s, k_meth2_s, k_meth3_s, lst_str, z_comp, z_nil, z_cons, k_cons_s, k_cons2_s, k_tst_s, c_one, k_one_s, c_cons, k_cc_s, k_cc2_t, k_cc2_f, t_val, k_val_s, t_not, k_tnot_s, t_bop, k_tbop_tt, k_tbop_tf, k_tbop_ft, k_tbop_ff, t_cmp, k_tcmp_s, i_nil, b_add, b_sub, b_and, b_or, b_xor, u_add, u_sub, u_or, u_xor, m_eq, m_ne, m_lt, m_le, m_gt, m_ge, m_seq, m_sne, v_bool, v_int, Bool.not_true, Bool.not_false, Option.join_some, g0, g1, g2, g3, g4, g5, g6, g7, g8, g9, g10, g11, s0, s1, s2, s3, s4, s5, s6, s7, s8, s9, s10, s11, d1]; rfl
    · have d1 : decide (sideT 1 = [119]) = false := rfl
      simp only [y_nil, y_cons, k_seq_n, k_seq_r, k_seq_c, y_asg, k_asg_s, k_end_s, y_asgA, k_asgA_s, k_asgA2_s, y_unp, k_unp_s, k_unp2_s, k_unp3_s, y_unpA, k_unpA_s, k_unpA2_s, y_aug, k_aug_s, k_aug2_s, y_augA, k_augA_s, k_augA2_s, k_augA3_s, k_augA4_s, y_ife, k_ife_t, k_ife_f, y_for, y_forT, k_for_s, y_ret, k_ret_s, y_exp, k_exp_s, y_cont, y_try, k_var_s, z_cst, z_var, z_tab, z_bin, k_bin_s, k_bin2_s, z_neg, k_neg_s, z_inv, k_inv_s, z_not, k_not_b, z_ife, k_ifE_t, k_ifE_f, k_bool_s, z_cmp, k_cmp_s, z_bop, k_bop_tt, k_bop_tf, k_bop_ft, k_bop_ff, z_attr, k_attr_s, z_sub, k_sub_s, k_sub2_s, z_slice, k_slice_s, k_slice2_s, k_slice3_s, z_rev, k_rev_s, z_list, z_tup, k_list0, k_list1, k_list6, k_tup2, k_tup3, k_tup4, z_call, k_call_s, z_new, k_new_s, k_new2_s, z_bi, k_bi_s, z_meth, k_meth_s, k_meth2_s, k_meth3_s, lst_str, z_comp, z_nil, z_cons, k_cons_s, k_cons2_s, k_tst_s, c_one, k_one_s, c_cons, k_cc_s, k_cc2_t, k_cc2_f, t_val, k_val_s, t_not, k_tnot_s, t_bop, k_tbop_tt, k_tbop_tf, k_tbop_ft, k_tbop_ff, t_cmp, k_tcmp_s, i_nil, b_add, b_sub, b_and, b_or, b_xor, u_add, u_sub, u_or, u_xor, m_eq, m_ne, m_lt, m_le, m_gt, m_ge, m_seq, m_sne, v_bool, v_int, Bool.not_true, Bool.not_false, Option.join_some, g0, g1, g2, g3, g4, g5, g6, g7, g8, g9, g10, g11, s0, s1, s2, s3, s4, s5, s6, s7, s8, s9, s10, s11, d1]; rfl
  have st2 := fun F => st F [some (.str (rgtT r)), some (.str [45]), some (.str (intText h)), some (.str (intText f)), some (.str (brdT (turnB b))), some (.str (swapR r)), none]
  simp only [List.cons_append, List.nil_append] at st2
  have rt : ∀ F : FT, evE initOf F (.ife (.cmp (.var 8) (.one .NotEq (.cst (.str [])))) (.var 8) (.cst (.str [45]))) [some (.str (fenT b s r h f)), some (.str (brdT b)), some (.str (sideT s)), some (.str (rgtT r)), some (.str [45]), some (.str (intText h)), some (.str (intText f)), some (.str (brdT (turnB b))), some (.str (swapR r)), none] S7
      = some (.str (rgtT (turnR r)), S7) := fun F => by
    by_cases he : swapR r = []
    · have d1 : decide (swapR r = []) = true := decide_eq_true he
      rw [if_pos he] at sr
      simp only [y_nil, y_cons, k_seq_n, k_seq_r, k_seq_c, y_asg, k_asg_s, k_end_s, y_asgA, k_asgA_s, k_asgA2_s, y_unp, k_unp_s, k_unp2_s, k_unp3_s, y_unpA, k_unpA_s, k_unpA2_s, y_aug, k_aug_s, k_aug2_s, y_augA, k_augA_s, k_augA2_s, k_augA3_s, k_augA4_s, y_ife, k_ife_t, k_ife_f, y_for, y_forT, k_for_s, y_ret, k_ret_s, y_exp, k_exp_s, y_cont, y_try, k_var_s, z_cst, z_var, z_tab, z_bin, k_bin_s, k_bin2_s, z_neg, k_neg_s, z_inv, k_inv_s, z_not, k_not_b, z_ife, k_ifE_t, k_ifE_f, k_bool_s, z_cmp, k_cmp_s, z_bop, k_bop_tt, k_bop_tf, k_bop_ft, k_bop_ff, z_attr, k_attr_s, z_sub, k_sub_s, k_sub2_s, z_slice, k_slice_s, k_slice2_s, k_slice3_s, z_rev, k_rev_s, z_list, z_tup, k_list0, k_list1, k_list6, k_tup2, k_tup3, k_tup4, z_call, k_call_s, z_new, k_new_s, k_new2_s, z_bi, k_bi_s, z_meth, k_meth_s, k_meth2_s, k_meth3_s, lst_str, z_comp, z_nil, z_cons, k_cons_s, k_cons2_s, k_tst_s, c_one, k_one_s, c_cons, k_cc_s, k_cc2_t, k_cc2_f, t_val, k_val_s, t_not, k_tnot_s, t_bop, k_tbop_tt, k_tbop_tf, k_tbop_ft, k_tbop_ff, t_cmp, k_tcmp_s, i_nil, b_add, b_sub, b_and, b_or, b_xor, u_add, u_sub, u_or, u_xor, m_eq, m_ne, m_lt, m_le, m_gt, m_ge, m_seq, m_sne, v_bool, v_int, Bool.not_true, Bool.not_false, Option.join_some, g0, g1, g2, g3, g4, g5, g6, g7, g8, g9, g10, g11, s0, s1, s2, s3, s4, s5, s6, s7, s8, s9, s10, s11, d1, sr]
    · have d1 : decide (swapR r = []) = false := decide_eq_false he
      rw [if_neg he] at sr
      simp only [y_nil, y_cons, k_seq_n, k_seq_r, k_seq_c, y_asg, k_asg_s, k_end_s, y_asgA, k_asgA_s, k_asgA2_s, y_unp, k_unp_s, k_unp2_s, k_unp3_s, y_unpA, k_unpA_s, k_unpA2_s, y_aug, k_aug_s, k_aug2_s, y_augA, k_augA_s, k_augA2_s, k_augA3_s, k_augA4_s, y_ife, k_ife_t, k_ife_f, y_for, y_forT, k_for_s, y_ret, k_ret_s, y_exp, k_exp_s, y_cont, y_try, k_var_s, z_cst, z_var, z_tab, z_bin, k_bin_s, k_bin2_s, z_neg, k_neg_s, z_inv, k_inv_s, z_not, k_not_b, z_ife, k_ifE_t, k_ifE_f, k_bool_s, z_cmp, k_cmp_s, z_bop, k_bop_tt, k_bop_tf, k_bop_ft, k_bop_ff, z_attr, k_attr_s, z_sub, k_sub_s, k_sub2_s, z_slice, k_slice_s, k_slice2_s, k_slice3_s, z_rev, k_rev_s, z_list, z_tup, k_list0, k_list1, k_list6, k_tup2, k_tup3, k_tup4, z_call, k_call_s, z_new, k_new_s, k_new2_s, z_bi, k_bi_s, z_meth, k_meth_s, k_meth2_s, k_meth3_s, lst_str, z_comp, z_nil, z_cons, k_cons_s, k_cons2_s, k_tst_s, c_one, k_one_s, c_cons, k_cc_s, k_cc2_t, k_cc2_f, t_val, k_val_s, t_not, k_tnot_s, t_bop, k_tbop_tt, k_tbop_tf, k_tbop_ft, k_tbop_ff, t_cmp, k_tcmp_s, i_nil, b_add, b_sub, b_and, b_or, b_xor, u_add, u_sub, u_or, u_xor, m_eq, m_ne, m_lt, m_le, m_gt, m_ge, m_seq, m_sne, v_bool, v_int, Bool.not_true, Bool.not_false, Option.join_some, g0, g1, g2, g3, g4, g5, g6, g7, g8, g9, g10, g11, s0, s1, s2, s3, s4, s5, s6, s7, s8, s9, s10, s11, d1]
      rw [sr]
  generalize runF initOf tbl (d + 1) = F at *
  have st3 := st2 F
  have rt3 := rt F
  have ba : bindAll [1, 2, 3, 4, 5, 6] [V.str (brdT b), .str (sideT s), .str (rgtT r), .str [45], .str (intText h), .str (intText f)] [some (.str (fenT b s r h f)), none, none, none, none, none, none, none, none, none]
    = some [some (.str (fenT b s r h f)), some (.str (brdT b)), some (.str (sideT s)), some (.str (rgtT r)), some (.str [45]), some (.str (intText h)), some (.str (intText f)), none, none, none] := rfl
  simp only [y_nil, y_cons, k_seq_n, k_seq_r, k_seq_c, y_asg, k_asg_s, k_end_s, y_asgA, k_asgA_s, k_asgA2_s, y_unp, k_unp_s, k_unp2_s, k_unp3_s, y_unpA, k_unpA_s, k_unpA2_s, y_aug, k_aug_s, k_aug2_s, y_augA, k_augA_s, k_augA2_s, k_augA3_s, k_augA4_s, y_ife, k_ife_t, k_ife_f, y_for, y_forT, k_for_s, y_ret, k_ret_s, y_exp, k_exp_s, y_cont, y_try, k_var_s, z_cst, z_var, z_tab, z_bin, k_bin_s, k_bin2_s, z_neg, k_neg_s, z_inv, k_inv_s, z_not, k_not_b, k_ifE_t, k_ifE_f, k_bool_s, z_cmp, k_cmp_s, z_bop, k_bop_tt, k_bop_tf, k_bop_ft, k_bop_ff, z_attr, k_attr_s, z_sub, k_sub_s, k_sub2_s, z_slice, k_slice_s, k_slice2_s, k_slice3_s, z_rev, k_rev_s, z_list, z_tup, k_list0, k_list1, k_list6, k_tup2, k_tup3, k_tup4, z_call, k_call_s, z_new, k_new_s, k_new2_s, z_bi, k_bi_s, z_meth, k_meth_s, k_meth2_s, k_meth3_s, lst_str, z_comp, z_nil, z_cons, k_cons_s, k_cons2_s, k_tst_s, c_one, k_one_s, c_cons, k_cc_s, k_cc2_t, k_cc2_f, t_val, k_val_s, t_not, k_tnot_s, t_bop, k_tbop_tt, k_tbop_tf, k_tbop_ft, k_tbop_ff, t_cmp, k_tcmp_s, i_nil, b_add, b_sub, b_and, b_or, b_xor, u_add, u_sub, u_or, u_xor, m_eq, m_ne, m_lt, m_le, m_gt, m_ge, m_seq, m_sne, v_bool, v_int, Bool.not_true, Bool.not_false, Option.join_some, g0, g1, g2, g3, g4, g5, g6, g7, g8, g9, g10, g11, s0, s1, s2, s3, s4, s5, s6, s7, s8, s9, s10, s11, f_law_turned, sp1, u1, ba, sp2, rv, e4, j5, e6, j7, st3, rt3, e8, j8]
  exact ⟨_, rfl⟩
end Mine
namespace Mine
open PySem
section
variable {st : V → LE → Option LE} {body : LE → AH → Option (Fl × LE × AH)}
theorem forV_r0 (n : Nat) (hn : n < 2000) (Inv : Nat → LE → AH → Prop)
    (hit : ∀ i env σ, i < n → Inv i env σ → ∃ env1, st (.int (i : Int)) env = some env1 ∧ ∃ f env2 σ2, (f = .next ∨ f = .cont) ∧ body env1 σ = some (f, env2, σ2) ∧ Inv (i + 1) env2 σ2) (env : LE) (σ : AH) (I : Inv 0 env σ) :
    ∃ env' σ', forV st body (.range 0 (n : Int) 1) env σ = some (.next, env', σ') ∧ Inv n env' σ' := by
  have h := forV_range (st := st) (body := body) 0 n (by lia) (by lia) Inv (fun i env σ hi I => by rw [Nat.zero_add]; exact hit i env σ hi I) env σ I
  rw [Nat.zero_add] at h
  exact h
end
noncomputable def dg (c : Nat) : Bool := ([49, 50, 51, 52, 53, 54, 55, 56] : List Nat).contains c
noncomputable def wt (c : Nat) : Nat := if dg c then c - 48 else 1
noncomputable def sumW (y : List Nat) : Nat := (y.map wt).sum
noncomputable def adj : Bool → List Nat → Bool
  | _, [] => true
  | p, c :: r => !(p && dg c) && adj (dg c) r
theorem dg_gap : ∀ g : Fin 9, 1 ≤ g.val → dg (48 + g.val) = true ∧ wt (48 + g.val) = g.val := by decide
theorem dg_let {c : Nat} (h : c ∈ [80, 78, 66, 82, 81, 75, 112, 110, 98, 114, 113, 107]) : dg c = false ∧ wt c = 1 := by revert c; decide
theorem sumW_app (x y : List Nat) : sumW (x ++ y) = sumW x + sumW y := by unfold sumW; rw [List.map_append, List.sum_append]
theorem sumW_cons (c : Nat) (y : List Nat) : sumW (c :: y) = wt c + sumW y := by unfold sumW; rw [List.map_cons, List.sum_cons]
theorem gap_w {g : Nat} (h : g < 9) : sumW (gapT g) = g := by
  unfold gapT
  split
  · rename_i e; rw [e]; rfl
  · rename_i e
    rw [sumW_cons, (dg_gap ⟨g, h⟩ (by show 1 ≤ g; lia)).2]; rfl
theorem adj_row : ∀ (cells : List Int) (g : Nat), (∀ x ∈ cells, CellOk x) → g + cells.length < 9 → adj false (rowT cells g) = true ∧ sumW (rowT cells g) = g + cells.length
  | [], g, _, hg => by
    simp only [List.length_nil] at hg
    rw [rowT, gap_w (by lia)]
    refine ⟨?_, rfl⟩
    unfold gapT
    split <;> rfl
  | x :: r, g, hx, hg => by
    simp only [List.length_cons] at hg ⊢
    obtain ⟨i1, i2⟩ := adj_row r (g + 1) (fun y hy => hx y (List.mem_cons_of_mem _ hy)) (by lia)
    obtain ⟨j1, j2⟩ := adj_row r 0 (fun y hy => hx y (List.mem_cons_of_mem _ hy)) (by lia)
    rw [rowT]
    by_cases h0 : x = 0
    · rw [if_pos h0]; exact ⟨i1, by lia⟩
    · rw [if_neg h0]
      obtain ⟨l1, l2⟩ := dg_let (letC_in (hx x List.mem_cons_self) h0)
      refine ⟨?_, ?_⟩
      · have : adj false (letC x :: rowT r 0) = true ∧ adj true (letC x :: rowT r 0) = true := by
          constructor <;> rw [adj, l1, j1] <;> rfl
        unfold gapT
        split
        · exact this.1
        · rename_i e
          have hg' : g < 9 := by lia
          rw [List.cons_append, List.nil_append, adj, (dg_gap ⟨g, hg'⟩ (by show 1 ≤ g; lia)).1, this.2]; rfl
      · rw [sumW_app, sumW_cons, gap_w (by lia), l2, j2]; lia
theorem adj_at : ∀ (y : List Nat) (p : Bool) (i c c' : Nat), adj p y = true → y[i]? = some c → y[i + 1]? = some c' → dg c' = true → dg c = false
  | [], _, i, c, c', _, h, _, _ => by simp at h
  | x :: r, p, 0, c, c', h, h1, h2, h3 => by
    simp only [List.getElem?_cons_zero, Option.some.injEq] at h1
    subst h1
    cases r with
    | nil => simp at h2
    | cons z w =>
      simp only [Nat.zero_add, List.getElem?_cons_succ, List.getElem?_cons_zero, Option.some.injEq] at h2
      subst h2
      rw [adj, adj, h3] at h
      cases q : dg x
      · rfl
      · rw [q] at h; simp at h
  | x :: r, p, i + 1, c, c', h, h1, h2, h3 => by
    rw [adj, Bool.and_eq_true] at h
    exact adj_at r _ i c c' h.2 (by simpa using h1) (by simpa using h2) h3
theorem sumW_take {y : List Nat} {i c : Nat} (h : y[i]? = some c) : sumW (y.take (i + 1)) = sumW (y.take i) + wt c := by
  have hi := (List.getElem?_eq_some_iff.mp h).1
  have e : y.take (i + 1) = y.take i ++ [c] := by
    rw [List.take_add_one, h]; rfl
  rw [e, sumW_app, sumW_cons]; rfl
noncomputable def lfIn : ISs := .cons (.asg 5 (.cmp (.sub (.var 2) (.var 4)) (.one .In (.cst (.str [49, 50, 51, 52, 53, 54, 55, 56]))))) (.cons (.ife (.bop true (.val (.var 5)) (.bop true (.cmp (.var 4) (.one .Gt (.cst (.int 0))))
    (.cmp (.sub (.var 2) (.bin .Sub (.var 4) (.cst (.int 1)))) (.one .In (.cst (.str [49, 50, 51, 52, 53, 54, 55, 56])))))) (.cons (.ret (.cst (.bool false))) (.nil)) (.nil)) (.cons (.aug 3 .Add (.ife (.val (.var 5)) (.bi .int
    (.cons (.sub (.var 2) (.var 4)) (.nil))) (.cst (.int 1)))) (.nil)))
noncomputable def lfOut : ISs := .cons (.asg 3 (.cst (.int 0))) (.cons (.for_ 4 (.bi .range (.cons (.bi .len (.cons (.var 2) (.nil))) (.nil))) lfIn) (.cons (.ife (.cmp (.var 3) (.one .NotEq (.var 1))) (.cons (.ret (.cst (.bool false))) (.nil)) (.nil)) (.nil)))
theorem bi_int {c : Nat} (h : 48 ≤ c ∧ c ≤ 57) (σ : AH) : biV .int [.str [c]] σ = some (.int ((c : Int) - 48), σ) := if_pos h
theorem dg_is {c : Nat} (h : dg c = true) : 49 ≤ c ∧ c ≤ 56 := by
  unfold dg at h
  rw [List.contains_iff_mem] at h
  revert c
  decide
theorem lf_in {F : FT} {σ : AH} {t0 : V} {y : List Nat} {i c n : Nat} {x5 : Option V} (hy : y[i]? = some c) (ha : adj false y = true) (hl : y.length ≤ 100) :
    ∃ y5, bd F lfIn [some t0, some (.int 7), some (.str y), some (.int (n : Int)), some (.int (i : Int)), x5] σ = some (.next, [some t0, some (.int 7), some (.str y), some (.int ((n + wt c : Nat) : Int)), some (.int (i : Int)), y5], σ) := by
  have hi := (List.getElem?_eq_some_iff.mp hy).1
  have s1 := sub_sx σ hy (by lia)
  refine ⟨some (.bool (dg c)), ?_⟩
  have mi : ∀ c, cmpV .In (.str [c]) (.str [49, 50, 51, 52, 53, 54, 55, 56]) σ = some (dg c) := fun c => m_in σ c _
  cases hd : dg c with
  | false =>
    have w : wt c = 1 := by unfold wt; rw [hd]; rfl
    have ci : (n : Int) + 1 = ((n + 1 : Nat) : Int) := by lia
    rw [w]
    simp only [y_nil, y_cons, k_seq_n, k_seq_r, k_seq_c, y_asg, k_asg_s, k_end_s, y_asgA, k_asgA_s, k_asgA2_s, y_unp, k_unp_s, k_unp2_s, k_unp3_s, y_unpA, k_unpA_s, k_unpA2_s, y_aug, k_aug_s, k_aug2_s, y_augA, k_augA_s, k_augA2_s, k_augA3_s, k_augA4_s, y_ife, k_ife_t, k_ife_f, y_for, y_forT, k_for_s, y_ret, k_ret_s, y_exp, k_exp_s, y_cont, y_try, k_var_s, z_cst, z_var, z_tab, z_bin, k_bin_s, k_bin2_s, z_neg, k_neg_s, z_inv, k_inv_s, z_not, k_not_b, z_ife, k_ifE_t, k_ifE_f, k_bool_s, z_cmp, k_cmp_s, z_bop, k_bop_tt, k_bop_tf, k_bop_ft, k_bop_ff, z_attr, k_attr_s, z_sub, k_sub_s, k_sub2_s, z_slice, k_slice_s, k_slice2_s, k_slice3_s, z_rev, k_rev_s, z_list, z_tup, k_list0, k_list1, k_list6, k_tup2, k_tup3, k_tup4, z_call, k_call_s, z_new, k_new_s, k_new2_s, z_bi, k_bi_s, z_meth, k_meth_s, k_meth2_s, k_meth3_s, lst_str, z_comp, z_nil, z_cons, k_cons_s, k_cons2_s, k_tst_s, c_one, k_one_s, c_cons, k_cc_s, k_cc2_t, k_cc2_f, t_val, k_val_s, t_not, k_tnot_s, t_bop, k_tbop_tt, k_tbop_tf, k_tbop_ft, k_tbop_ff, t_cmp, k_tcmp_s, i_nil, b_add, b_sub, b_and, b_or, b_xor, u_add, u_sub, u_or, u_xor, m_eq, m_ne, m_lt, m_le, m_gt, m_ge, m_seq, m_sne, v_bool, v_int, Bool.not_true, Bool.not_false, Option.join_some, g0, g1, g2, g3, g4, g5, g6, g7, g8, g9, g10, g11, s0, s1, s2, s3, s4, s5, s6, s7, s8, s9, s10, s11, bd, lfIn, s1, mi, hd, ci]
  | true =>
    have hc := dg_is hd
    have w : wt c = c - 48 := by unfold wt; rw [hd]; rfl
    have ci : (n : Int) + ((c : Int) - 48) = ((n + (c - 48) : Nat) : Int) := by lia
    have bi := bi_int (c := c) (by lia) σ
    rw [w]
    rcases Nat.eq_zero_or_pos i with h0 | h0
    · have dd : decide ((0 : Int) < (i : Int)) = false := decide_eq_false (by lia)
      simp only [y_nil, y_cons, k_seq_n, k_seq_r, k_seq_c, y_asg, k_asg_s, k_end_s, y_asgA, k_asgA_s, k_asgA2_s, y_unp, k_unp_s, k_unp2_s, k_unp3_s, y_unpA, k_unpA_s, k_unpA2_s, y_aug, k_aug_s, k_aug2_s, y_augA, k_augA_s, k_augA2_s, k_augA3_s, k_augA4_s, y_ife, k_ife_t, k_ife_f, y_for, y_forT, k_for_s, y_ret, k_ret_s, y_exp, k_exp_s, y_cont, y_try, k_var_s, z_cst, z_var, z_tab, z_bin, k_bin_s, k_bin2_s, z_neg, k_neg_s, z_inv, k_inv_s, z_not, k_not_b, z_ife, k_ifE_t, k_ifE_f, k_bool_s, z_cmp, k_cmp_s, z_bop, k_bop_tt, k_bop_tf, k_bop_ft, k_bop_ff, z_attr, k_attr_s, z_sub, k_sub_s, k_sub2_s, z_slice, k_slice_s, k_slice2_s, k_slice3_s, z_rev, k_rev_s, z_list, z_tup, k_list0, k_list1, k_list6, k_tup2, k_tup3, k_tup4, z_call, k_call_s, z_new, k_new_s, k_new2_s, z_bi, k_bi_s, z_meth, k_meth_s, k_meth2_s, k_meth3_s, lst_str, z_comp, z_nil, z_cons, k_cons_s, k_cons2_s, k_tst_s, c_one, k_one_s, c_cons, k_cc_s, k_cc2_t, k_cc2_f, t_val, k_val_s, t_not, k_tnot_s, t_bop, k_tbop_tt, k_tbop_tf, k_tbop_ft, k_tbop_ff, t_cmp, k_tcmp_s, i_nil, b_add, b_sub, b_and, b_or, b_xor, u_add, u_sub, u_or, u_xor, m_eq, m_ne, m_lt, m_le, m_gt, m_ge, m_seq, m_sne, v_bool, v_int, Bool.not_true, Bool.not_false, Option.join_some, g0, g1, g2, g3, g4, g5, g6, g7, g8, g9, g10, g11, s0, s1, s2, s3, s4, s5, s6, s7, s8, s9, s10, s11, bd, lfIn, s1, mi, hd, dd, bi, ci]
    · obtain ⟨j, rfl⟩ : ∃ j, i = j + 1 := ⟨i - 1, by lia⟩
      have dd : decide ((0 : Int) < ((j + 1 : Nat) : Int)) = true := decide_eq_true (by lia)
      have ji : ((j + 1 : Nat) : Int) - 1 = (j : Int) := by lia
      have hj : y[j]? = some y[j] := List.getElem?_eq_getElem (by lia)
      have s2 := sub_sx σ hj (by lia)
      have hd2 := adj_at y false j _ c ha hj hy hd
      simp only [y_nil, y_cons, k_seq_n, k_seq_r, k_seq_c, y_asg, k_asg_s, k_end_s, y_asgA, k_asgA_s, k_asgA2_s, y_unp, k_unp_s, k_unp2_s, k_unp3_s, y_unpA, k_unpA_s, k_unpA2_s, y_aug, k_aug_s, k_aug2_s, y_augA, k_augA_s, k_augA2_s, k_augA3_s, k_augA4_s, y_ife, k_ife_t, k_ife_f, y_for, y_forT, k_for_s, y_ret, k_ret_s, y_exp, k_exp_s, y_cont, y_try, k_var_s, z_cst, z_var, z_tab, z_bin, k_bin_s, k_bin2_s, z_neg, k_neg_s, z_inv, k_inv_s, z_not, k_not_b, z_ife, k_ifE_t, k_ifE_f, k_bool_s, z_cmp, k_cmp_s, z_bop, k_bop_tt, k_bop_tf, k_bop_ft, k_bop_ff, z_attr, k_attr_s, z_sub, k_sub_s, k_sub2_s, z_slice, k_slice_s, k_slice2_s, k_slice3_s, z_rev, k_rev_s, z_list, z_tup, k_list0, k_list1, k_list6, k_tup2, k_tup3, k_tup4, z_call, k_call_s, z_new, k_new_s, k_new2_s, z_bi, k_bi_s, z_meth, k_meth_s, k_meth2_s, k_meth3_s, lst_str, z_comp, z_nil, z_cons, k_cons_s, k_cons2_s, k_tst_s, c_one, k_one_s, c_cons, k_cc_s, k_cc2_t, k_cc2_f, t_val, k_val_s, t_not, k_tnot_s, t_bop, k_tbop_tt, k_tbop_tf, k_tbop_ft, k_tbop_ff, t_cmp, k_tcmp_s, i_nil, b_add, b_sub, b_and, b_or, b_xor, u_add, u_sub, u_or, u_xor, m_eq, m_ne, m_lt, m_le, m_gt, m_ge, m_seq, m_sne, v_bool, v_int, Bool.not_true, Bool.not_false, Option.join_some, g0, g1, g2, g3, g4, g5, g6, g7, g8, g9, g10, g11, s0, s1, s2, s3, s4, s5, s6, s7, s8, s9, s10, s11, bd, lfIn, s1, mi, hd, dd, bi, ci, ji, s2, hd2]
theorem lf_out {F : FT} {σ : AH} {t0 : V} {y : List Nat} {x3 x4 x5 : Option V} (ha : adj false y = true) (hs : sumW y = 7) (hl : y.length ≤ 100) :
    ∃ y3 y4 y5, bd F lfOut [some t0, some (.int 7), some (.str y), x3, x4, x5] σ = some (.next, [some t0, some (.int 7), some (.str y), y3, y4, y5], σ) := by
  have loop := forV_r0 (st := stK 4) (body := bd F lfIn) y.length (by lia)
    (fun i env σ' => σ' = σ ∧ ∃ x4 x5, env = [some t0, some (.int 7), some (.str y), some (.int ((sumW (y.take i) : Nat) : Int)), x4, x5])
    (fun i env σ' hi h => by
      obtain ⟨rfl, x4, x5, rfl⟩ := h
      have hy : y[i]? = some y[i] := List.getElem?_eq_getElem hi
      obtain ⟨y5, e⟩ := lf_in (F := F) (σ := σ') (t0 := t0) (n := sumW (y.take i)) (x5 := x5) hy ha hl
      rw [← sumW_take hy] at e
      exact ⟨_, rfl, .next, _, _, .inl rfl, e, rfl, _, _, rfl⟩)
    [some t0, some (.int 7), some (.str y), some (.int 0), x4, x5] σ ⟨rfl, _, _, rfl⟩
  obtain ⟨env', σ', e, rfl, z4, z5, rfl⟩ := loop
  rw [List.take_length, hs] at e
  have bl := bi_len_s σ' (x := y) (by lia)
  have br := bi_range σ' (n := y.length) (by lia)
  have dd : decide (((7 : Nat) : Int) = 7) = true := rfl
  refine ⟨some (.int ((7 : Nat) : Int)), z4, z5, ?_⟩
  simp only [y_nil, y_cons, k_seq_n, k_seq_r, k_seq_c, y_asg, k_asg_s, k_end_s, y_asgA, k_asgA_s, k_asgA2_s, y_unp, k_unp_s, k_unp2_s, k_unp3_s, y_unpA, k_unpA_s, k_unpA2_s, y_aug, k_aug_s, k_aug2_s, y_augA, k_augA_s, k_augA2_s, k_augA3_s, k_augA4_s, y_ife, k_ife_t, k_ife_f, y_for, y_forT, k_for_s, y_ret, k_ret_s, y_exp, k_exp_s, y_cont, y_try, k_var_s, z_cst, z_var, z_tab, z_bin, k_bin_s, k_bin2_s, z_neg, k_neg_s, z_inv, k_inv_s, z_not, k_not_b, z_ife, k_ifE_t, k_ifE_f, k_bool_s, z_cmp, k_cmp_s, z_bop, k_bop_tt, k_bop_tf, k_bop_ft, k_bop_ff, z_attr, k_attr_s, z_sub, k_sub_s, k_sub2_s, z_slice, k_slice_s, k_slice2_s, k_slice3_s, z_rev, k_rev_s, z_list, z_tup, k_list0, k_list1, k_list6, k_tup2, k_tup3, k_tup4, z_call, k_call_s, z_new, k_new_s, k_new2_s, z_bi, k_bi_s, z_meth, k_meth_s, k_meth2_s, k_meth3_s, lst_str, z_comp, z_nil, z_cons, k_cons_s, k_cons2_s, k_tst_s, c_one, k_one_s, c_cons, k_cc_s, k_cc2_t, k_cc2_f, t_val, k_val_s, t_not, k_tnot_s, t_bop, k_tbop_tt, k_tbop_tf, k_tbop_ft, k_tbop_ff, t_cmp, k_tcmp_s, i_nil, b_add, b_sub, b_and, b_or, b_xor, u_add, u_sub, u_or, u_xor, m_eq, m_ne, m_lt, m_le, m_gt, m_ge, m_seq, m_sne, v_bool, v_int, Bool.not_true, Bool.not_false, Option.join_some, g0, g1, g2, g3, g4, g5, g6, g7, g8, g9, g10, g11, s0, s1, s2, s3, s4, s5, s6, s7, s8, s9, s10, s11, bd, lfOut, bl, br]
  have e' := e
  unfold bd at e'
  simp only [y_nil, y_cons, k_seq_n, k_seq_r, k_seq_c, y_asg, k_asg_s, k_end_s, y_asgA, k_asgA_s, k_asgA2_s, y_unp, k_unp_s, k_unp2_s, k_unp3_s, y_unpA, k_unpA_s, k_unpA2_s, y_aug, k_aug_s, k_aug2_s, y_augA, k_augA_s, k_augA2_s, k_augA3_s, k_augA4_s, y_ife, k_ife_t, k_ife_f, y_for, y_forT, k_for_s, y_ret, k_ret_s, y_exp, k_exp_s, y_cont, y_try, k_var_s, z_cst, z_var, z_tab, z_bin, k_bin_s, k_bin2_s, z_neg, k_neg_s, z_inv, k_inv_s, z_not, k_not_b, z_ife, k_ifE_t, k_ifE_f, k_bool_s, z_cmp, k_cmp_s, z_bop, k_bop_tt, k_bop_tf, k_bop_ft, k_bop_ff, z_attr, k_attr_s, z_sub, k_sub_s, k_sub2_s, z_slice, k_slice_s, k_slice2_s, k_slice3_s, z_rev, k_rev_s, z_list, z_tup, k_list0, k_list1, k_list6, k_tup2, k_tup3, k_tup4, z_call, k_call_s, z_new, k_new_s, k_new2_s, z_bi, k_bi_s, z_meth, k_meth_s, k_meth2_s, k_meth3_s, lst_str, z_comp, z_nil, z_cons, k_cons_s, k_cons2_s, k_tst_s, c_one, k_one_s, c_cons, k_cc_s, k_cc2_t, k_cc2_f, t_val, k_val_s, t_not, k_tnot_s, t_bop, k_tbop_tt, k_tbop_tf, k_tbop_ft, k_tbop_ff, t_cmp, k_tcmp_s, i_nil, b_add, b_sub, b_and, b_or, b_xor, u_add, u_sub, u_or, u_xor, m_eq, m_ne, m_lt, m_le, m_gt, m_ge, m_seq, m_sne, v_bool, v_int, Bool.not_true, Bool.not_false, Option.join_some, g0, g1, g2, g3, g4, g5, g6, g7, g8, g9, g10, g11, s0, s1, s2, s3, s4, s5, s6, s7, s8, s9, s10, s11, bd, e, dd]
theorem law_fills_ok (d : Nat) {b : List Int} (hl : b.length = 28) (hb : ∀ x ∈ b, CellOk x) {s : Int} {r h f : Nat} (hr : r < 16) (hh : h < 301) (hf : f < 301) (σ : AH) :
    ∃ σ', runF initOf tbl (d + 1) 63 [.str (fenT b s r h f), .int 7] σ = some (.bool true, σ') ∧ Gro σ σ' := by
  have hlen := fen_len hl s hr hh hf
  have sp1 := me_split σ (fenT b s r h f) 32 (by lia)
  rw [split_fen hl hb s hr hh hf] at sp1
  obtain ⟨S1, eS1⟩ : ∃ S1 : AH, S1 = σ ++ [AO.list ([brdT b, sideT s, rgtT r, [45], intText h, intText f].map .str)] := ⟨_, rfl⟩
  have E1 : Gro σ S1 := by rw [eS1]; exact Gro.app _ _
  have g1' : S1[σ.length]? = some (.list ([brdT b, sideT s, rgtT r, [45], intText h, intText f].map .str)) := by rw [eS1, ap_get0]; rfl
  have s0' : subV (.obj σ.length) (.int 0) S1 = some (.str (brdT b)) := sub_l (i := 0) S1 g1' rfl (by lia)
  rw [← eS1] at sp1
  have bl := brdT_len hl
  have sp2 := me_split S1 (brdT b) 47 (by lia)
  rw [split_brd hl hb] at sp2
  obtain ⟨S2, eS2⟩ : ∃ S2 : AH, S2 = S1 ++ [AO.list ([rowT (rwC b 3) 0, rowT (rwC b 2) 0, rowT (rwC b 1) 0, rowT (rwC b 0) 0].map .str)] := ⟨_, rfl⟩
  rw [← eS2] at sp2
  have E2 : Gro S1 S2 := by rw [eS2]; exact Gro.app _ _
  have h2 : S2[S1.length]? = some (.list ([rowT (rwC b 3) 0, rowT (rwC b 2) 0, rowT (rwC b 1) 0, rowT (rwC b 0) 0].map .str)) := by rw [eS2, ap_get0]; rfl
  have row : ∀ y ∈ [rowT (rwC b 3) 0, rowT (rwC b 2) 0, rowT (rwC b 1) 0, rowT (rwC b 0) 0], adj false y = true ∧ sumW y = 7 ∧ y.length ≤ 100 := by
    have one : ∀ k, k < 4 → adj false (rowT (rwC b k) 0) = true ∧ sumW (rowT (rwC b k) 0) = 7 ∧ (rowT (rwC b k) 0).length ≤ 100 := fun k hk => by
      have l7 := rwC_len hl hk
      obtain ⟨a1, a2⟩ := adj_row (rwC b k) 0 (fun x hx => hb x (rwC_mem hx)) (by lia)
      have a3 := rowT_len (rwC b k) 0
      exact ⟨a1, by lia, by lia⟩
    intro y hy
    simp only [List.mem_cons, List.not_mem_nil, or_false] at hy
    rcases hy with rfl | rfl | rfl | rfl
    · exact one 3 (by lia)
    · exact one 2 (by lia)
    · exact one 1 (by lia)
    · exact one 0 (by lia)
  refine ⟨S2, ?_, E1.trans E2⟩
  refine run_ret' (fn := f_law_fills) rfl rfl ?_
  show ∃ env', exSs _ _ f_law_fills.body ([some (.str (fenT b s r h f)), some (.int 7), none, none, none, none]) σ = _
  generalize runF initOf tbl d = F at *
  have loop := forV_list (m := S1.length) (vs := [rowT (rwC b 3) 0, rowT (rwC b 2) 0, rowT (rwC b 1) 0, rowT (rwC b 0) 0].map .str) (st := stK 2) (body := bd F lfOut)
    (fun i env σ' => σ' = S2 ∧ ∃ x2 x3 x4 x5, env = [some (.str (fenT b s r h f)), some (.int 7), x2, x3, x4, x5])
    (fun i env σ' h => by rw [h.1]; exact list_at _ h2)
    (fun i env σ' v hv h => by
      obtain ⟨rfl, x2, x3, x4, x5, rfl⟩ := h
      obtain ⟨y, hy, rfl⟩ := List.mem_map.mp (List.mem_of_getElem? hv)
      obtain ⟨y1, y2, y3⟩ := row y hy
      obtain ⟨z3, z4, z5, e⟩ := lf_out (F := F) (σ := σ') (t0 := .str (fenT b s r _ f)) (x3 := x3) (x4 := x4) (x5 := x5) y1 y2 y3
      exact ⟨_, rfl, .next, _, _, .inl rfl, e, rfl, _, _, _, _, rfl⟩)
    [some (.str (fenT b s r h f)), some (.int 7), none, none, none, none] S2 ⟨rfl, _, _, _, _, rfl⟩
  obtain ⟨env', σ', e, rfl, x2, x3, x4, x5, rfl⟩ := loop
  unfold lfOut lfIn at e
  simp only [y_nil, y_cons, k_seq_n, k_seq_r, k_seq_c, y_asg, k_asg_s, k_end_s, y_asgA, k_asgA_s, k_asgA2_s, y_unp, k_unp_s, k_unp2_s, k_unp3_s, y_unpA, k_unpA_s, k_unpA2_s, y_aug, k_aug_s, k_aug2_s, y_augA, k_augA_s, k_augA2_s, k_augA3_s, k_augA4_s, y_ife, k_ife_t, k_ife_f, y_for, y_forT, k_for_s, y_ret, k_ret_s, y_exp, k_exp_s, y_cont, y_try, k_var_s, z_cst, z_var, z_tab, z_bin, k_bin_s, k_bin2_s, z_neg, k_neg_s, z_inv, k_inv_s, z_not, k_not_b, z_ife, k_ifE_t, k_ifE_f, k_bool_s, z_cmp, k_cmp_s, z_bop, k_bop_tt, k_bop_tf, k_bop_ft, k_bop_ff, z_attr, k_attr_s, z_sub, k_sub_s, k_sub2_s, z_slice, k_slice_s, k_slice2_s, k_slice3_s, z_rev, k_rev_s, z_list, z_tup, k_list0, k_list1, k_list6, k_tup2, k_tup3, k_tup4, z_call, k_call_s, z_new, k_new_s, k_new2_s, z_bi, k_bi_s, z_meth, k_meth_s, k_meth2_s, k_meth3_s, lst_str, z_comp, z_nil, z_cons, k_cons_s, k_cons2_s, k_tst_s, c_one, k_one_s, c_cons, k_cc_s, k_cc2_t, k_cc2_f, t_val, k_val_s, t_not, k_tnot_s, t_bop, k_tbop_tt, k_tbop_tf, k_tbop_ft, k_tbop_ff, t_cmp, k_tcmp_s, i_nil, b_add, b_sub, b_and, b_or, b_xor, u_add, u_sub, u_or, u_xor, m_eq, m_ne, m_lt, m_le, m_gt, m_ge, m_seq, m_sne, v_bool, v_int, Bool.not_true, Bool.not_false, Option.join_some, g0, g1, g2, g3, g4, g5, g6, g7, g8, g9, g10, g11, s0, s1, s2, s3, s4, s5, s6, s7, s8, s9, s10, s11, f_law_fills, sp1, s0', sp2, e]
  exact ⟨_, rfl⟩
end Mine
namespace Mine
open PySem
theorem m_lne {σ : AH} {n m : Nat} {a b : List Int} (h1 : σ[n]? = some (.list (a.map .int))) (h2 : σ[m]? = some (.list (b.map .int))) : cmpV .NotEq (.obj n) (.obj m) σ = some (!decide (a = b)) := by
  show (match (listAt σ n).bind intsOf, (listAt σ m).bind intsOf with | some a, some b => some (!decide (a = b)) | _, _ => none) = _
  rw [list_at σ h1, list_at σ h2, Option.bind_some, Option.bind_some, intsOf_map, intsOf_map]
theorem m_leq {σ : AH} {n m : Nat} {a b : List Int} (h1 : σ[n]? = some (.list (a.map .int))) (h2 : σ[m]? = some (.list (b.map .int))) : cmpV .Eq (.obj n) (.obj m) σ = some (decide (a = b)) := by
  show (match (listAt σ n).bind intsOf, (listAt σ m).bind intsOf with | some a, some b => some (decide (a = b)) | _, _ => none) = _
  rw [list_at σ h1, list_at σ h2, Option.bind_some, Option.bind_some, intsOf_map, intsOf_map]
theorem same_position_ok (d : Nat) {σ : AH} {p q : Nat} {P : Pz} (G : Geo σ) (H : PosAt σ p P) (H2 : PosAt σ q P) : runF initOf tbl (d + 1) 29 [.obj p, .obj q] σ = some (.bool true, σ) := by
  have h1 := H.obj
  have h2 := H2.obj
  unfold posFs at h1 h2
  obtain ⟨gfs, e21, e7, e4, _⟩ := geo21 G
  have a0 := attr_i (a := 0) σ e21 e7
  have a1 := attr_i (a := 1) σ e21 e4
  have b1 := m_lne H.board H2.board
  have b2 := m_lne H.kinds H2.kinds
  have b3 := m_lne H.sides H2.sides
  have b4 := m_leq (a := []) (b := []) H.hist H2.hist
  have dd : ∀ x : Int, decide (x = x) = true := fun x => decide_eq_true rfl
  have dl : ∀ x : List Int, decide (x = x) = true := fun x => decide_eq_true rfl
  have p18 := attr_i (a := 18) σ h1 rfl
  have p20 := attr_i (a := 20) σ h1 rfl
  have p21 := attr_i (a := 21) σ h1 rfl
  have p22 := attr_i (a := 22) σ h1 rfl
  have p17 := attr_i (a := 17) σ h1 rfl
  have p16 := attr_i (a := 16) σ h1 rfl
  have p15 := attr_i (a := 15) σ h1 rfl
  have p23 := attr_i (a := 23) σ h1 rfl
  have p3 := attr_i (a := 3) σ h1 rfl
  have p24 := attr_i (a := 24) σ h1 rfl
  have p25 := attr_i (a := 25) σ h1 rfl
  have q18 := attr_i (a := 18) σ h2 rfl
  have q20 := attr_i (a := 20) σ h2 rfl
  have q21 := attr_i (a := 21) σ h2 rfl
  have q22 := attr_i (a := 22) σ h2 rfl
  have q17 := attr_i (a := 17) σ h2 rfl
  have q16 := attr_i (a := 16) σ h2 rfl
  have q15 := attr_i (a := 15) σ h2 rfl
  have q23 := attr_i (a := 23) σ h2 rfl
  have q3 := attr_i (a := 3) σ h2 rfl
  have q24 := attr_i (a := 24) σ h2 rfl
  have q25 := attr_i (a := 25) σ h2 rfl
  refine run_ret' (fn := f_same_position) rfl rfl ?_
  show ∃ env', exSs _ _ f_same_position.body ([some (.obj p), some (.obj q)]) σ = _
  generalize runF initOf tbl d = F at *
  simp only [y_nil, y_cons, k_seq_n, k_seq_r, k_seq_c, y_asg, k_asg_s, k_end_s, y_asgA, k_asgA_s, k_asgA2_s, y_unp, k_unp_s, k_unp2_s, k_unp3_s, y_unpA, k_unpA_s, k_unpA2_s, y_aug, k_aug_s, k_aug2_s, y_augA, k_augA_s, k_augA2_s, k_augA3_s, k_augA4_s, y_ife, k_ife_t, k_ife_f, y_for, y_forT, k_for_s, y_ret, k_ret_s, y_exp, k_exp_s, y_cont, y_try, k_var_s, z_cst, z_var, z_tab, z_bin, k_bin_s, k_bin2_s, z_neg, k_neg_s, z_inv, k_inv_s, z_not, k_not_b, z_ife, k_ifE_t, k_ifE_f, k_bool_s, z_cmp, k_cmp_s, z_bop, k_bop_tt, k_bop_tf, k_bop_ft, k_bop_ff, z_attr, k_attr_s, z_sub, k_sub_s, k_sub2_s, z_slice, k_slice_s, k_slice2_s, k_slice3_s, z_rev, k_rev_s, z_list, z_tup, k_list0, k_list1, k_list6, k_tup2, k_tup3, k_tup4, z_call, k_call_s, z_new, k_new_s, k_new2_s, z_bi, k_bi_s, z_meth, k_meth_s, k_meth2_s, k_meth3_s, lst_str, z_comp, z_nil, z_cons, k_cons_s, k_cons2_s, k_tst_s, c_one, k_one_s, c_cons, k_cc_s, k_cc2_t, k_cc2_f, t_val, k_val_s, t_not, k_tnot_s, t_bop, k_tbop_tt, k_tbop_tf, k_tbop_ft, k_tbop_ff, t_cmp, k_tcmp_s, i_nil, b_add, b_sub, b_and, b_or, b_xor, u_add, u_sub, u_or, u_xor, m_eq, m_ne, m_lt, m_le, m_gt, m_ge, m_seq, m_sne, v_bool, v_int, Bool.not_true, Bool.not_false, Option.join_some, g0, g1, g2, g3, g4, g5, g6, g7, g8, g9, g10, g11, s0, s1, s2, s3, s4, s5, s6, s7, s8, s9, s10, s11, f_same_position, decide_true, a0, a1, b1, b2, b3, b4, dd, dl, p18, p20, p21, p22, p17, p16, p15, p23, p3, p24, p25, q18, q20, q21, q22, q17, q16, q15, q23, q3, q24, q25]
  exact ⟨_, rfl⟩
end Mine
namespace Mine
open PySem
noncomputable def natV (o i : Nat) : Option Int := match base[o - 2]? with
  | some (.list vs) => (match vs[i]? with
    | some (.int z) => some z
    | _ => none)
  | _ => none
noncomputable def natAt (o i : Nat) : Nat := match natV o i with
  | some z => z.toNat
  | none => 0
noncomputable def natOk (o i : Nat) : Bool := decide (2 ≤ o ∧ o < 52) && (match natV o i with
  | some z => decide (0 ≤ z)
  | none => false)
theorem natV_is {o i : Nat} {z : Int} (h : natV o i = some z) : ∃ vs, base[o - 2]? = some (.list vs) ∧ vs[i]? = some (.int z) := by
  delta natV at h
  generalize base[o - 2]? = q at *
  cases q with
  | none => exact zE h
  | some x =>
    cases x with
    | list vs =>
      dsimp only at h
      cases e : vs[i]? with
      | none => rw [e] at h; exact zE h
      | some v =>
        rw [e] at h
        cases v with
        | int y => exact ⟨vs, rfl, by rw [e, Option.some.inj h]⟩
        | _ => exact zE h
    | _ => exact zE h
theorem nat_at {σ : AH} (G : Geo σ) {o i : Nat} (h : natOk o i = true) (hi : i < 2000) : subV (.obj o) (.int (i : Int)) σ = some (.int ((natAt o i : Nat) : Int)) := by
  delta natOk at h
  revert h; refine aBe fun h1 h3 => ?_
  have h1 := of_decide_eq_true h1
  have g := G (o - 2) (by lia)
  rw [Nat.sub_add_cancel h1.1] at g
  cases q : natV o i with
  | none => rw [q] at h3; cases h3
  | some z =>
    rw [q] at h3
    obtain ⟨vs, e1, e2⟩ := natV_is q
    have hz : natAt o i = z.toNat := by delta natAt; rw [q]
    rw [hz, Int.toNat_of_nonneg (of_decide_eq_true h3)]
    exact sub_l σ (g.trans e1) e2 hi
noncomputable def sqN (s : Nat) : Nat := if s = 0 then 3 else 24
noncomputable def grow (k : Nat) : Bool := [true, true, false, false, true, false, false, true].getD k false
theorem grow_ok (d : Nat) (σ : AH) : ∀ k : Nat, k < 8 → runF initOf tbl (d + 1) 7 [.int (k : Int)] σ = some (.bool (grow k), σ)
  | 0, _ => by kernel_rfl | 1, _ => by kernel_rfl | 2, _ => by kernel_rfl | 3, _ => by kernel_rfl
  | 4, _ => by kernel_rfl | 5, _ => by kernel_rfl | 6, _ => by kernel_rfl | 7, _ => by kernel_rfl
  | n + 8, h => absurd h (by lia)
noncomputable def rayE (g : Bool) (R m : Int) : Int := if m = 0 then R else match g with
  | true => Builtin.bitAnd R (Builtin.bitXor m (m - 1))
  | false =>
    let b0 := m.fdiv ((2 : Int) ^ 1)
    let b1 := Builtin.bitOr b0 (b0.fdiv ((2 : Int) ^ 1))
    let b2 := Builtin.bitOr b1 (b1.fdiv ((2 : Int) ^ 2))
    let b3 := Builtin.bitOr b2 (b2.fdiv ((2 : Int) ^ 4))
    let b4 := Builtin.bitOr b3 (b3.fdiv ((2 : Int) ^ 8))
    let b5 := Builtin.bitOr b4 (b4.fdiv ((2 : Int) ^ 16))
    let b6 := Builtin.bitOr b5 (b5.fdiv ((2 : Int) ^ 32))
    Builtin.bitAnd R (Builtin.bitNot b6)
theorem rays_at {σ : AH} (G : Geo σ) : ∀ k : Nat, k < 8 → subV (.obj 24) (.int (k : Int)) σ = some (.obj (35 + 2 * k)) := fun k hk => by
  have g : σ[24]? = some (.list ((List.range 8).map fun k => .obj (35 + 2 * k))) := G 22 (by decide)
  exact sub_l σ g (by simp [hk]) (by lia)
theorem shr_l (a : Int) (σ : AH) : binV .RShift (.int a) (.int 1) σ = some (.int (a.fdiv ((2 : Int) ^ 1)), σ) ∧ binV .RShift (.int a) (.int 2) σ = some (.int (a.fdiv ((2 : Int) ^ 2)), σ) ∧ binV .RShift (.int a) (.int 4) σ = some (.int (a.fdiv ((2 : Int) ^ 4)), σ)
    ∧ binV .RShift (.int a) (.int 8) σ = some (.int (a.fdiv ((2 : Int) ^ 8)), σ) ∧ binV .RShift (.int a) (.int 16) σ = some (.int (a.fdiv ((2 : Int) ^ 16)), σ) ∧ binV .RShift (.int a) (.int 32) σ = some (.int (a.fdiv ((2 : Int) ^ 32)), σ) :=
  ⟨b_shr σ a 1, b_shr σ a 2, b_shr σ a 4, b_shr σ a 8, b_shr σ a 16, b_shr σ a 32⟩
theorem ray_attacks_ok (d : Nat) {σ : AH} (G : Geo σ) {k s : Nat} (hk : k < 8) (hs : s < 28) (h : natOk (35 + 2 * k) s = true) (occ : Nat) :
    runF initOf tbl (d + 2) 15 [.obj 21, .int (k : Int), .int (s : Int), .int (occ : Int)] σ = some (.int (rayE (grow k) ((natAt (35 + 2 * k) s : Nat) : Int) ((natAt (35 + 2 * k) s &&& occ : Nat) : Int)), σ) := by
  have g21 : ∃ fs, σ[21]? = some (.inst 0 fs) ∧ getF 8 fs = some (.obj 24) := ⟨_, G 19 (by decide), rfl⟩
  obtain ⟨fs, g21, f8⟩ := g21
  have a8 := attr_i (a := 8) σ g21 f8
  have r1 := rays_at G k hk
  have r2 := nat_at G h (by lia)
  have gr := grow_ok d σ k hk
  refine run_ret' (fn := f_ray_attacks) rfl rfl ?_
  show ∃ env', exSs _ _ f_ray_attacks.body ([some (.obj 21), some (.int (k : Int)), some (.int (s : Int)), some (.int (occ : Int)), none, none, none]) σ = _
  generalize runF initOf tbl (d + 1) = F at *
  generalize natAt (35 + 2 * k) s = R at *
  unfold rayE
  by_cases h0 : ((R &&& occ : Nat) : Int) = 0
  · rw [if_pos h0]
    have dd : decide (((R &&& occ : Nat) : Int) = 0) = true := decide_eq_true h0
    simp only [y_nil, y_cons, k_seq_n, k_seq_r, k_seq_c, y_asg, k_asg_s, k_end_s, y_asgA, k_asgA_s, k_asgA2_s, y_unp, k_unp_s, k_unp2_s, k_unp3_s, y_unpA, k_unpA_s, k_unpA2_s, y_aug, k_aug_s, k_aug2_s, y_augA, k_augA_s, k_augA2_s, k_augA3_s, k_augA4_s, y_ife, k_ife_t, k_ife_f, y_for, y_forT, k_for_s, y_ret, k_ret_s, y_exp, k_exp_s, y_cont, y_try, k_var_s, z_cst, z_var, z_tab, z_bin, k_bin_s, k_bin2_s, z_neg, k_neg_s, z_inv, k_inv_s, z_not, k_not_b, z_ife, k_ifE_t, k_ifE_f, k_bool_s, z_cmp, k_cmp_s, z_bop, k_bop_tt, k_bop_tf, k_bop_ft, k_bop_ff, z_attr, k_attr_s, z_sub, k_sub_s, k_sub2_s, z_slice, k_slice_s, k_slice2_s, k_slice3_s, z_rev, k_rev_s, z_list, z_tup, k_list0, k_list1, k_list6, k_tup2, k_tup3, k_tup4, z_call, k_call_s, z_new, k_new_s, k_new2_s, z_bi, k_bi_s, z_meth, k_meth_s, k_meth2_s, k_meth3_s, lst_str, z_comp, z_nil, z_cons, k_cons_s, k_cons2_s, k_tst_s, c_one, k_one_s, c_cons, k_cc_s, k_cc2_t, k_cc2_f, t_val, k_val_s, t_not, k_tnot_s, t_bop, k_tbop_tt, k_tbop_tf, k_tbop_ft, k_tbop_ff, t_cmp, k_tcmp_s, i_nil, b_add, b_sub, b_and, b_or, b_xor, u_add, u_sub, u_or, u_xor, m_eq, m_ne, m_lt, m_le, m_gt, m_ge, m_seq, m_sne, v_bool, v_int, Bool.not_true, Bool.not_false, Option.join_some, g0, g1, g2, g3, g4, g5, g6, g7, g8, g9, g10, g11, s0, s1, s2, s3, s4, s5, s6, s7, s8, s9, s10, s11, f_ray_attacks, a8, r1, r2, and_nn, dd]
    exact ⟨_, rfl⟩
  · rw [if_neg h0]
    have dd : decide (((R &&& occ : Nat) : Int) = 0) = false := decide_eq_false h0
    cases hg : grow k with
    | true =>
      rw [hg] at gr
      simp only [y_nil, y_cons, k_seq_n, k_seq_r, k_seq_c, y_asg, k_asg_s, k_end_s, y_asgA, k_asgA_s, k_asgA2_s, y_unp, k_unp_s, k_unp2_s, k_unp3_s, y_unpA, k_unpA_s, k_unpA2_s, y_aug, k_aug_s, k_aug2_s, y_augA, k_augA_s, k_augA2_s, k_augA3_s, k_augA4_s, y_ife, k_ife_t, k_ife_f, y_for, y_forT, k_for_s, y_ret, k_ret_s, y_exp, k_exp_s, y_cont, y_try, k_var_s, z_cst, z_var, z_tab, z_bin, k_bin_s, k_bin2_s, z_neg, k_neg_s, z_inv, k_inv_s, z_not, k_not_b, z_ife, k_ifE_t, k_ifE_f, k_bool_s, z_cmp, k_cmp_s, z_bop, k_bop_tt, k_bop_tf, k_bop_ft, k_bop_ff, z_attr, k_attr_s, z_sub, k_sub_s, k_sub2_s, z_slice, k_slice_s, k_slice2_s, k_slice3_s, z_rev, k_rev_s, z_list, z_tup, k_list0, k_list1, k_list6, k_tup2, k_tup3, k_tup4, z_call, k_call_s, z_new, k_new_s, k_new2_s, z_bi, k_bi_s, z_meth, k_meth_s, k_meth2_s, k_meth3_s, lst_str, z_comp, z_nil, z_cons, k_cons_s, k_cons2_s, k_tst_s, c_one, k_one_s, c_cons, k_cc_s, k_cc2_t, k_cc2_f, t_val, k_val_s, t_not, k_tnot_s, t_bop, k_tbop_tt, k_tbop_tf, k_tbop_ft, k_tbop_ff, t_cmp, k_tcmp_s, i_nil, b_add, b_sub, b_and, b_or, b_xor, u_add, u_sub, u_or, u_xor, m_eq, m_ne, m_lt, m_le, m_gt, m_ge, m_seq, m_sne, v_bool, v_int, Bool.not_true, Bool.not_false, Option.join_some, g0, g1, g2, g3, g4, g5, g6, g7, g8, g9, g10, g11, s0, s1, s2, s3, s4, s5, s6, s7, s8, s9, s10, s11, f_ray_attacks, a8, r1, r2, and_nn, dd, gr]
      exact ⟨_, rfl⟩
    | false =>
      rw [hg] at gr
      have w1 := fun a => (shr_l a σ).1
      have w2 := fun a => (shr_l a σ).2.1
      have w3 := fun a => (shr_l a σ).2.2.1
      have w4 := fun a => (shr_l a σ).2.2.2.1
      have w5 := fun a => (shr_l a σ).2.2.2.2.1
      have w6 := fun a => (shr_l a σ).2.2.2.2.2
      simp only [y_nil, y_cons, k_seq_n, k_seq_r, k_seq_c, y_asg, k_asg_s, k_end_s, y_asgA, k_asgA_s, k_asgA2_s, y_unp, k_unp_s, k_unp2_s, k_unp3_s, y_unpA, k_unpA_s, k_unpA2_s, y_aug, k_aug_s, k_aug2_s, y_augA, k_augA_s, k_augA2_s, k_augA3_s, k_augA4_s, y_ife, k_ife_t, k_ife_f, y_for, y_forT, k_for_s, y_ret, k_ret_s, y_exp, k_exp_s, y_cont, y_try, k_var_s, z_cst, z_var, z_tab, z_bin, k_bin_s, k_bin2_s, z_neg, k_neg_s, z_inv, k_inv_s, z_not, k_not_b, z_ife, k_ifE_t, k_ifE_f, k_bool_s, z_cmp, k_cmp_s, z_bop, k_bop_tt, k_bop_tf, k_bop_ft, k_bop_ff, z_attr, k_attr_s, z_sub, k_sub_s, k_sub2_s, z_slice, k_slice_s, k_slice2_s, k_slice3_s, z_rev, k_rev_s, z_list, z_tup, k_list0, k_list1, k_list6, k_tup2, k_tup3, k_tup4, z_call, k_call_s, z_new, k_new_s, k_new2_s, z_bi, k_bi_s, z_meth, k_meth_s, k_meth2_s, k_meth3_s, lst_str, z_comp, z_nil, z_cons, k_cons_s, k_cons2_s, k_tst_s, c_one, k_one_s, c_cons, k_cc_s, k_cc2_t, k_cc2_f, t_val, k_val_s, t_not, k_tnot_s, t_bop, k_tbop_tt, k_tbop_tf, k_tbop_ft, k_tbop_ff, t_cmp, k_tcmp_s, i_nil, b_add, b_sub, b_and, b_or, b_xor, u_add, u_sub, u_or, u_xor, m_eq, m_ne, m_lt, m_le, m_gt, m_ge, m_seq, m_sne, v_bool, v_int, Bool.not_true, Bool.not_false, Option.join_some, g0, g1, g2, g3, g4, g5, g6, g7, g8, g9, g10, g11, s0, s1, s2, s3, s4, s5, s6, s7, s8, s9, s10, s11, f_ray_attacks, a8, r1, r2, and_nn, dd, gr, w1, w2, w3, w4, w5, w6]
      exact ⟨_, rfl⟩
end Mine
namespace Mine
open PySem
noncomputable def maskL : List Nat → Nat
  | [] => 0
  | i :: l => 2 ^ i ||| maskL l
noncomputable def bitsL (R : Nat) : List Nat := (List.range 28).filter R.testBit
noncomputable def subs : List Nat → List Nat
  | [] => [0]
  | i :: l => subs l ++ (subs l).map (2 ^ i ||| ·)
theorem bit_and (i occ : Nat) : 2 ^ i &&& occ = if occ.testBit i then 2 ^ i else 0 := by
  apply Nat.eq_of_testBit_eq
  intro j
  rw [Nat.testBit_and, Nat.testBit_two_pow]
  by_cases h : i = j
  · subst h
    cases q : occ.testBit i <;> simp
  · cases q : occ.testBit i <;> simp [h]
theorem mask_and (occ : Nat) : ∀ l : List Nat, maskL l &&& occ = maskL (l.filter occ.testBit)
  | [] => by simp [maskL]
  | i :: l => by
    rw [maskL, Nat.and_or_distrib_right, mask_and occ l, bit_and, List.filter_cons]
    cases occ.testBit i
    · simp
    · simp [maskL]
theorem subs_mem (p : Nat → Bool) : ∀ l : List Nat, maskL (l.filter p) ∈ subs l
  | [] => by simp [maskL, subs]
  | i :: l => by
    have ih := subs_mem p l
    rw [List.filter_cons, subs, List.mem_append, List.mem_map]
    cases p i
    · exact .inl ih
    · exact .inr ⟨_, ih, rfl⟩
theorem and_mem {R : Nat} (h : R = maskL (bitsL R)) (occ : Nat) : R &&& occ ∈ subs (bitsL R) := by
  have : R &&& occ = maskL (bitsL R) &&& occ := by rw [← h]
  rw [this, mask_and]
  exact subs_mem _ _
noncomputable def flipN (x : Nat) : Nat := bitsN (fun y => y == 1) ((List.range 28).map fun i => if x.testBit (tsq i) then 1 else 0)
theorem flip_test (x i : Nat) : (flipN x).testBit i = (decide (i < 28) && x.testBit (tsq i)) := by
  unfold flipN
  rw [bits_test, List.getElem?_map]
  by_cases h : i < 28
  · have e : (List.range 28)[i]? = some i := by simp [h]
    rw [e]
    simp only [h, Option.map_some, Option.getD_some, decide_true, Bool.true_and]
    cases q : x.testBit (tsq i) <;> simp
  · have e : (List.range 28)[i]? = none := by simp; lia
    rw [e]; simp [h]
theorem flip_or (x y : Nat) : flipN (x ||| y) = flipN x ||| flipN y := by
  apply Nat.eq_of_testBit_eq
  intro i
  simp only [flip_test, Nat.testBit_or, Bool.and_or_distrib_left]
theorem flip_and (x y : Nat) : flipN (x &&& y) = flipN x &&& flipN y := by
  apply Nat.eq_of_testBit_eq
  intro i
  simp only [flip_test, Nat.testBit_and]
  cases decide (i < 28) <;> simp
theorem flip_zero : flipN 0 = 0 := by decide +kernel
theorem flip_eq_zero {x : Nat} (h : x < 2 ^ 28) : flipN x = 0 ↔ x = 0 := by
  constructor
  · intro e
    apply Nat.eq_of_testBit_eq
    intro i
    by_cases hi : i < 28
    · have ht := tsq_lt ⟨i, hi⟩
      dsimp only at ht
      have := flip_test x (tsq i)
      rw [e, ht.2, decide_eq_true ht.1, Bool.true_and] at this
      rw [← this]; simp
    · rw [Nat.testBit_lt_two_pow (Nat.lt_of_lt_of_le h (Nat.pow_le_pow_right (by lia) (by lia)))]; simp
  · intro e; rw [e, flip_zero]
noncomputable def rayX (k s m : Nat) : Nat := (rayE (grow k) ((natAt (35 + 2 * k) s : Nat) : Int) (m : Int)).toNat
noncomputable def kf (k : Nat) : Nat := [2, 1, 0, 3, 5, 4, 7, 6].getD k 0
noncomputable def rayChk (s k : Nat) : Bool := let R := natAt (35 + 2 * k) s
  natOk (35 + 2 * k) s && decide (R = maskL (bitsL R)) && (subs (bitsL R)).all fun m => decide (0 ≤ rayE (grow k) (R : Int) (m : Int))
theorem rayChk_ok : ∀ s : Fin 2, ∀ k : Fin 8, rayChk (sqN s.val) k.val = true := by decide +kernel
theorem rayX_is {s k : Nat} (hs : s < 2) (hk : k < 8) (occ : Nat) : natOk (35 + 2 * k) (sqN s) = true ∧ rayE (grow k) ((natAt (35 + 2 * k) (sqN s) : Nat) : Int) ((natAt (35 + 2 * k) (sqN s) &&& occ : Nat) : Int) = ((rayX k (sqN s) (natAt (35 + 2 * k) (sqN s) &&& occ) : Nat) : Int) := by
  have h := rayChk_ok ⟨s, hs⟩ ⟨k, hk⟩
  simp only [rayChk, Bool.and_eq_true, decide_eq_true_eq, List.all_eq_true] at h
  obtain ⟨⟨h1, h2⟩, h3⟩ := h
  refine ⟨h1, ?_⟩
  have := h3 _ (and_mem h2 occ)
  unfold rayX
  lia
noncomputable def rayFlip (k : Nat) : Bool := let R := natAt (35 + 2 * k) 3
  decide (natAt (35 + 2 * kf k) 24 = flipN R) && decide (R = maskL (bitsL R)) && (subs (bitsL R)).all fun m => decide (rayX (kf k) 24 (flipN m) = flipN (rayX k 3 m)) && decide (rayX k 3 m < 2 ^ 28)
theorem rayFlip_ok : ∀ k : Fin 8, rayFlip k.val = true := by decide +kernel
noncomputable def rayO (s occ k : Nat) : Nat := rayX k s (natAt (35 + 2 * k) s &&& occ)
theorem rayO_flip {k : Nat} (hk : k < 8) (occ : Nat) : rayO 24 (flipN occ) (kf k) = flipN (rayO 3 occ k) ∧ rayO 3 occ k < 2 ^ 28 := by
  have h := rayFlip_ok ⟨k, hk⟩
  simp only [rayFlip, Bool.and_eq_true, decide_eq_true_eq, List.all_eq_true] at h
  obtain ⟨⟨h1, h2⟩, h3⟩ := h
  have := h3 _ (and_mem h2 occ)
  unfold rayO
  rw [h1, ← flip_and]
  exact this
noncomputable def orN (f : Nat → Nat) (a : Nat) : Nat → Nat
  | 0 => 0
  | n + 1 => orN f a n ||| f (a + n)
theorem ray_ok (d : Nat) {σ : AH} (G : Geo σ) {k s : Nat} (hk : k < 8) (hs : s < 2) (occ : Nat) :
    runF initOf tbl (d + 2) 15 [.obj 21, .int (k : Int), .int ((sqN s : Nat) : Int), .int (occ : Int)] σ = some (.int ((rayO (sqN s) occ k : Nat) : Int), σ) := by
  obtain ⟨h1, h2⟩ := rayX_is hs hk occ
  have := ray_attacks_ok d G hk (s := sqN s) (by unfold sqN; split <;> lia) h1 occ
  rw [this, h2]; rfl
theorem sum_body (d : Nat) {σ : AH} (G : Geo σ) {k s : Nat} (hk : k < 8) (hs : s < 2) (occ n : Nat) :
    bd (runF initOf tbl (d + 2)) (.cons (.aug 3 .BitOr (.call 15 (.cons (.var 0) (.cons (.var 4) (.cons (.var 1) (.cons (.var 2) (.nil))))))) (.nil)) [some (.obj 21), some (.int ((sqN s : Nat) : Int)), some (.int (occ : Int)), some (.int (n : Int)), some (.int (k : Int))] σ
      = some (.next, [some (.obj 21), some (.int ((sqN s : Nat) : Int)), some (.int (occ : Int)), some (.int ((n ||| rayO (sqN s) occ k : Nat) : Int)), some (.int (k : Int))], σ) := by
  have r := ray_ok d G hk hs occ
  generalize runF initOf tbl (d + 2) = F at *
  simp only [y_nil, y_cons, k_seq_n, k_seq_r, k_seq_c, y_asg, k_asg_s, k_end_s, y_asgA, k_asgA_s, k_asgA2_s, y_unp, k_unp_s, k_unp2_s, k_unp3_s, y_unpA, k_unpA_s, k_unpA2_s, y_aug, k_aug_s, k_aug2_s, y_augA, k_augA_s, k_augA2_s, k_augA3_s, k_augA4_s, y_ife, k_ife_t, k_ife_f, y_for, y_forT, k_for_s, y_ret, k_ret_s, y_exp, k_exp_s, y_cont, y_try, k_var_s, z_cst, z_var, z_tab, z_bin, k_bin_s, k_bin2_s, z_neg, k_neg_s, z_inv, k_inv_s, z_not, k_not_b, z_ife, k_ifE_t, k_ifE_f, k_bool_s, z_cmp, k_cmp_s, z_bop, k_bop_tt, k_bop_tf, k_bop_ft, k_bop_ff, z_attr, k_attr_s, z_sub, k_sub_s, k_sub2_s, z_slice, k_slice_s, k_slice2_s, k_slice3_s, z_rev, k_rev_s, z_list, z_tup, k_list0, k_list1, k_list6, k_tup2, k_tup3, k_tup4, z_call, k_call_s, z_new, k_new_s, k_new2_s, z_bi, k_bi_s, z_meth, k_meth_s, k_meth2_s, k_meth3_s, lst_str, z_comp, z_nil, z_cons, k_cons_s, k_cons2_s, k_tst_s, c_one, k_one_s, c_cons, k_cc_s, k_cc2_t, k_cc2_f, t_val, k_val_s, t_not, k_tnot_s, t_bop, k_tbop_tt, k_tbop_tf, k_tbop_ft, k_tbop_ff, t_cmp, k_tcmp_s, i_nil, b_add, b_sub, b_and, b_or, b_xor, u_add, u_sub, u_or, u_xor, m_eq, m_ne, m_lt, m_le, m_gt, m_ge, m_seq, m_sne, v_bool, v_int, Bool.not_true, Bool.not_false, Option.join_some, g0, g1, g2, g3, g4, g5, g6, g7, g8, g9, g10, g11, s0, s1, s2, s3, s4, s5, s6, s7, s8, s9, s10, s11, bd, r, or_nn]
theorem rook_ok (d : Nat) {σ : AH} (G : Geo σ) {s : Nat} (hs : s < 2) (occ : Nat) :
    runF initOf tbl (d + 3) 16 [.obj 21, .int ((sqN s : Nat) : Int), .int (occ : Int)] σ = some (.int ((orN (rayO (sqN s) occ) 0 4 : Nat) : Int), σ) := by
  have loop := forV_r0 (st := stK 4) (body := bd (runF initOf tbl (d + 2)) (.cons (.aug 3 .BitOr (.call 15 (.cons (.var 0) (.cons (.var 4) (.cons (.var 1) (.cons (.var 2) (.nil))))))) (.nil))) 4 (by lia)
    (fun i env σ' => σ' = σ ∧ ∃ x4, env = [some (.obj 21), some (.int ((sqN s : Nat) : Int)), some (.int (occ : Int)), some (.int ((orN (rayO (sqN s) occ) 0 i : Nat) : Int)), x4])
    (fun i env σ' hi h => by
      obtain ⟨rfl, x4, rfl⟩ := h
      have e := sum_body d G (k := i) (by lia) hs occ (orN (rayO (sqN s) occ) 0 i)
      have e2 : orN (rayO (sqN s) occ) 0 (i + 1) = orN (rayO (sqN s) occ) 0 i ||| rayO (sqN s) occ i := by rw [orN, Nat.zero_add]
      rw [← e2] at e
      exact ⟨_, rfl, .next, _, _, .inl rfl, e, rfl, _, rfl⟩)
    [some (.obj 21), some (.int ((sqN s : Nat) : Int)), some (.int (occ : Int)), some (.int 0), none] σ ⟨rfl, none, rfl⟩
  obtain ⟨env', σ', e, rfl, x4, rfl⟩ := loop
  have br : biV .range [.int 4] σ' = some (.range 0 ((4 : Nat) : Int) 1, σ') := bi_range σ' (n := 4) (by lia)
  refine run_ret' (fn := f_rook_attacks) rfl rfl ?_
  show ∃ env', exSs _ _ f_rook_attacks.body ([some (.obj 21), some (.int ((sqN s : Nat) : Int)), some (.int (occ : Int)), none, none]) σ' = _
  generalize runF initOf tbl (d + 2) = F at *
  simp only [y_nil, y_cons, k_seq_n, k_seq_r, k_seq_c, y_asg, k_asg_s, k_end_s, y_asgA, k_asgA_s, k_asgA2_s, y_unp, k_unp_s, k_unp2_s, k_unp3_s, y_unpA, k_unpA_s, k_unpA2_s, y_aug, k_aug_s, k_aug2_s, y_augA, k_augA_s, k_augA2_s, k_augA3_s, k_augA4_s, y_ife, k_ife_t, k_ife_f, y_for, y_forT, k_for_s, y_ret, k_ret_s, y_exp, k_exp_s, y_cont, y_try, k_var_s, z_cst, z_var, z_tab, z_bin, k_bin_s, k_bin2_s, z_neg, k_neg_s, z_inv, k_inv_s, z_not, k_not_b, z_ife, k_ifE_t, k_ifE_f, k_bool_s, z_cmp, k_cmp_s, z_bop, k_bop_tt, k_bop_tf, k_bop_ft, k_bop_ff, z_attr, k_attr_s, z_sub, k_sub_s, k_sub2_s, z_slice, k_slice_s, k_slice2_s, k_slice3_s, z_rev, k_rev_s, z_list, z_tup, k_list0, k_list1, k_list6, k_tup2, k_tup3, k_tup4, z_call, k_call_s, z_new, k_new_s, k_new2_s, z_bi, k_bi_s, z_meth, k_meth_s, k_meth2_s, k_meth3_s, lst_str, z_comp, z_nil, z_cons, k_cons_s, k_cons2_s, k_tst_s, c_one, k_one_s, c_cons, k_cc_s, k_cc2_t, k_cc2_f, t_val, k_val_s, t_not, k_tnot_s, t_bop, k_tbop_tt, k_tbop_tf, k_tbop_ft, k_tbop_ff, t_cmp, k_tcmp_s, i_nil, b_add, b_sub, b_and, b_or, b_xor, u_add, u_sub, u_or, u_xor, m_eq, m_ne, m_lt, m_le, m_gt, m_ge, m_seq, m_sne, v_bool, v_int, Bool.not_true, Bool.not_false, Option.join_some, g0, g1, g2, g3, g4, g5, g6, g7, g8, g9, g10, g11, s0, s1, s2, s3, s4, s5, s6, s7, s8, s9, s10, s11, f_rook_attacks, br, e]
  exact ⟨_, rfl⟩
theorem bishop_ok (d : Nat) {σ : AH} (G : Geo σ) {s : Nat} (hs : s < 2) (occ : Nat) :
    runF initOf tbl (d + 3) 17 [.obj 21, .int ((sqN s : Nat) : Int), .int (occ : Int)] σ = some (.int ((orN (rayO (sqN s) occ) 4 4 : Nat) : Int), σ) := by
  have loop := forV_range (st := stK 4) (body := bd (runF initOf tbl (d + 2)) (.cons (.aug 3 .BitOr (.call 15 (.cons (.var 0) (.cons (.var 4) (.cons (.var 1) (.cons (.var 2) (.nil))))))) (.nil))) 4 4 (by lia) (by lia)
    (fun i env σ' => σ' = σ ∧ ∃ x4, env = [some (.obj 21), some (.int ((sqN s : Nat) : Int)), some (.int (occ : Int)), some (.int ((orN (rayO (sqN s) occ) 4 i : Nat) : Int)), x4])
    (fun i env σ' hi h => by
      obtain ⟨rfl, x4, rfl⟩ := h
      have e := sum_body d G (k := 4 + i) (by lia) hs occ (orN (rayO (sqN s) occ) 4 i)
      exact ⟨_, rfl, .next, _, _, .inl rfl, e, rfl, _, rfl⟩)
    [some (.obj 21), some (.int ((sqN s : Nat) : Int)), some (.int (occ : Int)), some (.int 0), none] σ ⟨rfl, none, rfl⟩
  obtain ⟨env', σ', e, rfl, x4, rfl⟩ := loop
  have br : biV .range [.int 4, .int 8] σ' = some (.range ((4 : Nat) : Int) ((4 + 4 : Nat) : Int) 1, σ') := rfl
  refine run_ret' (fn := f_bishop_attacks) rfl rfl ?_
  show ∃ env', exSs _ _ f_bishop_attacks.body ([some (.obj 21), some (.int ((sqN s : Nat) : Int)), some (.int (occ : Int)), none, none]) σ' = _
  generalize runF initOf tbl (d + 2) = F at *
  simp only [y_nil, y_cons, k_seq_n, k_seq_r, k_seq_c, y_asg, k_asg_s, k_end_s, y_asgA, k_asgA_s, k_asgA2_s, y_unp, k_unp_s, k_unp2_s, k_unp3_s, y_unpA, k_unpA_s, k_unpA2_s, y_aug, k_aug_s, k_aug2_s, y_augA, k_augA_s, k_augA2_s, k_augA3_s, k_augA4_s, y_ife, k_ife_t, k_ife_f, y_for, y_forT, k_for_s, y_ret, k_ret_s, y_exp, k_exp_s, y_cont, y_try, k_var_s, z_cst, z_var, z_tab, z_bin, k_bin_s, k_bin2_s, z_neg, k_neg_s, z_inv, k_inv_s, z_not, k_not_b, z_ife, k_ifE_t, k_ifE_f, k_bool_s, z_cmp, k_cmp_s, z_bop, k_bop_tt, k_bop_tf, k_bop_ft, k_bop_ff, z_attr, k_attr_s, z_sub, k_sub_s, k_sub2_s, z_slice, k_slice_s, k_slice2_s, k_slice3_s, z_rev, k_rev_s, z_list, z_tup, k_list0, k_list1, k_list6, k_tup2, k_tup3, k_tup4, z_call, k_call_s, z_new, k_new_s, k_new2_s, z_bi, k_bi_s, z_meth, k_meth_s, k_meth2_s, k_meth3_s, lst_str, z_comp, z_nil, z_cons, k_cons_s, k_cons2_s, k_tst_s, c_one, k_one_s, c_cons, k_cc_s, k_cc2_t, k_cc2_f, t_val, k_val_s, t_not, k_tnot_s, t_bop, k_tbop_tt, k_tbop_tf, k_tbop_ft, k_tbop_ff, t_cmp, k_tcmp_s, i_nil, b_add, b_sub, b_and, b_or, b_xor, u_add, u_sub, u_or, u_xor, m_eq, m_ne, m_lt, m_le, m_gt, m_ge, m_seq, m_sne, v_bool, v_int, Bool.not_true, Bool.not_false, Option.join_some, g0, g1, g2, g3, g4, g5, g6, g7, g8, g9, g10, g11, s0, s1, s2, s3, s4, s5, s6, s7, s8, s9, s10, s11, f_bishop_attacks, br, e]
  exact ⟨_, rfl⟩
end Mine
namespace Mine
open PySem
noncomputable def Kb (b : List Int) (k : Nat) : Nat := bitsN (isK (k : Int)) b
noncomputable def Sb (b : List Int) (s : Nat) : Nat := bitsN (isS (s : Int)) b
structure KingsAt (b : List Int) : Prop where
  len : b.length = 28
  k0 : b[3]? = some 6
  k1 : b[24]? = some 14
  only : ∀ (i : Nat) (x : Int), b[i]? = some x → (x = 6 → i = 3) ∧ (x = 14 → i = 24)
  cell : ∀ x ∈ b, CellOk x
theorem kind_at {σ : AH} {p : Nat} {P : Pz} (H : PosAt σ p P) {k : Nat} (hk : k < 7) : subV (.obj (p + 4)) (.int (k : Int)) σ = some (.int ((Kb P.b k : Nat) : Int)) :=
  sub_l σ H.kinds (by rw [List.getElem?_map, kindsOf_get _ _ hk]; rfl) (by lia)
theorem side_at {σ : AH} {p : Nat} {P : Pz} (H : PosAt σ p P) {s : Nat} (hs : s < 2) : subV (.obj (p + 5)) (.int (s : Int)) σ = some (.int ((Sb P.b s : Nat) : Int)) :=
  sub_l σ H.sides (by rcases (by lia : s = 0 ∨ s = 1) with rfl | rfl <;> rfl) (by lia)
theorem king_fin0 : ∀ s : Fin 2, (isS (s.val : Int) 0 && isK 6 0) = decide (0 = (s.val : Int) * 8 + 6) := by decide
theorem king_fin : ∀ (s sd : Fin 2) (k : Fin 7), 1 ≤ k.val → (isS (s.val : Int) ((sd.val : Int) * 8 + k.val) && isK 6 ((sd.val : Int) * 8 + k.val)) = decide ((sd.val : Int) * 8 + k.val = (s.val : Int) * 8 + 6) := by decide
theorem king_cell {x : Int} (h : CellOk x) {s : Nat} (hs : s < 2) : (isS (s : Int) x && isK 6 x) = decide (x = (s : Int) * 8 + 6) := by
  rcases h with rfl | ⟨sd, k, h1, h2, h3, rfl⟩
  · exact king_fin0 ⟨s, hs⟩
  · exact king_fin ⟨s, hs⟩ ⟨sd, h1⟩ ⟨k, Nat.lt_succ_of_le h3⟩ h2
theorem king_bits {b : List Int} (H : KingsAt b) {s : Nat} (hs : s < 2) : Sb b s &&& Kb b 6 = 2 ^ sqN s := by
  apply Nat.eq_of_testBit_eq
  intro i
  unfold Sb Kb
  rw [Nat.testBit_and, bits_test, bits_test, Nat.testBit_two_pow]
  cases e : b[i]? with
  | none =>
    have : 28 ≤ i := by rw [← H.len]; exact List.getElem?_eq_none_iff.mp e
    simp only [Option.map_none, Option.getD_none, Bool.false_and]
    exact (decide_eq_false (by unfold sqN; split <;> lia)).symm
  | some x =>
    simp only [Option.map_some, Option.getD_some]
    have kc := king_cell (H.cell x (List.mem_of_getElem? e)) hs
    rw [show isK ((6 : Nat) : Int) = isK 6 from rfl, kc, Bool.eq_iff_iff, decide_eq_true_eq, decide_eq_true_eq]
    have o := H.only i x e
    have k0 := H.k0
    have k1 := H.k1
    unfold sqN
    constructor
    · intro hx
      rcases (by lia : s = 0 ∨ s = 1) with rfl | rfl
      · rw [if_pos rfl]; exact (o.1 (by lia)).symm
      · rw [if_neg (by lia)]; exact (o.2 (by lia)).symm
    · intro hi
      rcases (by lia : s = 0 ∨ s = 1) with rfl | rfl
      · rw [if_pos rfl] at hi; subst hi; rw [e] at k0; cases k0; rfl
      · rw [if_neg (by lia)] at hi; subst hi; rw [e] at k1; cases k1; rfl
theorem lowest_ok (d : Nat) (σ : AH) : ∀ s : Nat, s < 2 → runF initOf tbl (d + 2) 20 [.int ((2 ^ sqN s : Nat) : Int)] σ = some (.int ((sqN s : Nat) : Int), σ)
  | 0, _ => by kernel_rfl
  | 1, _ => by kernel_rfl
  | n + 2, h => absurd h (by lia)
theorem king_square_ok (d : Nat) {σ : AH} {p : Nat} {P : Pz} (H : PosAt σ p P) (HK : KingsAt P.b) {s : Nat} (hs : s < 2) : runF initOf tbl (d + 3) 28 [.obj p, .int (s : Int)] σ = some (.int ((sqN s : Nat) : Int), σ) := by
  have h1 := H.obj
  unfold posFs at h1
  have p21 := attr_i (a := 21) σ h1 rfl
  have p22 := attr_i (a := 22) σ h1 rfl
  have e1 := side_at H hs
  have e2 : subV (.obj (p + 4)) (.int 6) σ = some (.int ((Kb P.b 6 : Nat) : Int)) := kind_at H (k := 6) (by lia)
  have kb := king_bits HK hs
  have lo := lowest_ok d σ s hs
  refine run_ret' (fn := f_king_square) rfl rfl ?_
  show ∃ env', exSs _ _ f_king_square.body ([some (.obj p), some (.int (s : Int))]) σ = _
  generalize runF initOf tbl (d + 2) = F at *
  simp only [y_nil, y_cons, k_seq_n, k_seq_r, k_seq_c, y_asg, k_asg_s, k_end_s, y_asgA, k_asgA_s, k_asgA2_s, y_unp, k_unp_s, k_unp2_s, k_unp3_s, y_unpA, k_unpA_s, k_unpA2_s, y_aug, k_aug_s, k_aug2_s, y_augA, k_augA_s, k_augA2_s, k_augA3_s, k_augA4_s, y_ife, k_ife_t, k_ife_f, y_for, y_forT, k_for_s, y_ret, k_ret_s, y_exp, k_exp_s, y_cont, y_try, k_var_s, z_cst, z_var, z_tab, z_bin, k_bin_s, k_bin2_s, z_neg, k_neg_s, z_inv, k_inv_s, z_not, k_not_b, z_ife, k_ifE_t, k_ifE_f, k_bool_s, z_cmp, k_cmp_s, z_bop, k_bop_tt, k_bop_tf, k_bop_ft, k_bop_ff, z_attr, k_attr_s, z_sub, k_sub_s, k_sub2_s, z_slice, k_slice_s, k_slice2_s, k_slice3_s, z_rev, k_rev_s, z_list, z_tup, k_list0, k_list1, k_list6, k_tup2, k_tup3, k_tup4, z_call, k_call_s, z_new, k_new_s, k_new2_s, z_bi, k_bi_s, z_meth, k_meth_s, k_meth2_s, k_meth3_s, lst_str, z_comp, z_nil, z_cons, k_cons_s, k_cons2_s, k_tst_s, c_one, k_one_s, c_cons, k_cc_s, k_cc2_t, k_cc2_f, t_val, k_val_s, t_not, k_tnot_s, t_bop, k_tbop_tt, k_tbop_tf, k_tbop_ft, k_tbop_ff, t_cmp, k_tcmp_s, i_nil, b_add, b_sub, b_and, b_or, b_xor, u_add, u_sub, u_or, u_xor, m_eq, m_ne, m_lt, m_le, m_gt, m_ge, m_seq, m_sne, v_bool, v_int, Bool.not_true, Bool.not_false, Option.join_some, g0, g1, g2, g3, g4, g5, g6, g7, g8, g9, g10, g11, s0, s1, s2, s3, s4, s5, s6, s7, s8, s9, s10, s11, f_king_square, p21, p22, e1, e2, and_nn, kb, lo]
  exact ⟨_, rfl⟩
noncomputable def stepN (b : List Int) (s : Nat) : Nat := ((natAt (27 + s) (sqN s) &&& Kb b 1) &&& Sb b (1 - s)) ||| (((natAt 26 (sqN s) &&& Kb b 2) ||| (natAt 33 (sqN s) &&& Kb b 6)) &&& Sb b (1 - s))
theorem step_nat : ∀ s : Fin 2, natOk (27 + s.val) (sqN s.val) = true ∧ natOk 26 (sqN s.val) = true ∧ natOk 33 (sqN s.val) = true := by decide +kernel
theorem geoFs {σ : AH} (G : Geo σ) : ∃ fs, σ[21]? = some (.inst 0 fs) ∧ getF 9 fs = some (.obj 33) ∧ getF 10 fs = some (.obj 26) ∧ getF 11 fs = some (.obj 29) ∧ getF 7 fs = some (.obj 23) ∧ getF 12 fs = some (.obj 30) := ⟨_, G 19 (by decide), rfl, rfl, rfl, rfl, rfl⟩
theorem pawn_ok (d : Nat) {σ : AH} {p : Nat} {P : Pz} (G : Geo σ) (H : PosAt σ p P) {s : Nat} (hs : s < 2) : runF initOf tbl (d + 1) 38 [.obj p, .int ((sqN s : Nat) : Int), .int ((1 - s : Nat) : Int)] σ = some (.int (((natAt (27 + s) (sqN s) &&& Kb P.b 1) &&& Sb P.b (1 - s) : Nat) : Int), σ) := by
  have h1 := H.obj
  unfold posFs at h1
  have p21 := attr_i (a := 21) σ h1 rfl
  have p22 := attr_i (a := 22) σ h1 rfl
  have p18 := attr_i (a := 18) σ h1 rfl
  obtain ⟨fs, g21, _, _, f11, _⟩ := geoFs G
  have a11 := attr_i (a := 11) σ g21 f11
  have l29 : σ[29]? = some (.list [.obj 27, .obj 28]) := G 27 (by decide)
  have ci : (1 : Int) - ((1 - s : Nat) : Int) = (s : Int) := by lia
  have e0 : subV (.obj 29) (.int (s : Int)) σ = some (.obj (27 + s)) := sub_l σ l29 (by rcases (by lia : s = 0 ∨ s = 1) with rfl | rfl <;> rfl) (by lia)
  have e1 := nat_at G (step_nat ⟨s, hs⟩).1 (by unfold sqN; split <;> lia)
  have e2 : subV (.obj (p + 4)) (.int 1) σ = some (.int ((Kb P.b 1 : Nat) : Int)) := kind_at H (k := 1) (by lia)
  have e3 := side_at H (s := 1 - s) (by lia)
  dsimp only at e1
  refine run_ret' (fn := f_pawn_attackers) rfl rfl ?_
  show ∃ env', exSs _ _ f_pawn_attackers.body ([some (.obj p), some (.int ((sqN s : Nat) : Int)), some (.int ((1 - s : Nat) : Int))]) σ = _
  generalize runF initOf tbl d = F at *
  simp only [y_nil, y_cons, k_seq_n, k_seq_r, k_seq_c, y_asg, k_asg_s, k_end_s, y_asgA, k_asgA_s, k_asgA2_s, y_unp, k_unp_s, k_unp2_s, k_unp3_s, y_unpA, k_unpA_s, k_unpA2_s, y_aug, k_aug_s, k_aug2_s, y_augA, k_augA_s, k_augA2_s, k_augA3_s, k_augA4_s, y_ife, k_ife_t, k_ife_f, y_for, y_forT, k_for_s, y_ret, k_ret_s, y_exp, k_exp_s, y_cont, y_try, k_var_s, z_cst, z_var, z_tab, z_bin, k_bin_s, k_bin2_s, z_neg, k_neg_s, z_inv, k_inv_s, z_not, k_not_b, z_ife, k_ifE_t, k_ifE_f, k_bool_s, z_cmp, k_cmp_s, z_bop, k_bop_tt, k_bop_tf, k_bop_ft, k_bop_ff, z_attr, k_attr_s, z_sub, k_sub_s, k_sub2_s, z_slice, k_slice_s, k_slice2_s, k_slice3_s, z_rev, k_rev_s, z_list, z_tup, k_list0, k_list1, k_list6, k_tup2, k_tup3, k_tup4, z_call, k_call_s, z_new, k_new_s, k_new2_s, z_bi, k_bi_s, z_meth, k_meth_s, k_meth2_s, k_meth3_s, lst_str, z_comp, z_nil, z_cons, k_cons_s, k_cons2_s, k_tst_s, c_one, k_one_s, c_cons, k_cc_s, k_cc2_t, k_cc2_f, t_val, k_val_s, t_not, k_tnot_s, t_bop, k_tbop_tt, k_tbop_tf, k_tbop_ft, k_tbop_ff, t_cmp, k_tcmp_s, i_nil, b_add, b_sub, b_and, b_or, b_xor, u_add, u_sub, u_or, u_xor, m_eq, m_ne, m_lt, m_le, m_gt, m_ge, m_seq, m_sne, v_bool, v_int, Bool.not_true, Bool.not_false, Option.join_some, g0, g1, g2, g3, g4, g5, g6, g7, g8, g9, g10, g11, s0, s1, s2, s3, s4, s5, s6, s7, s8, s9, s10, s11, f_pawn_attackers, p21, p22, p18, a11, ci, e0, e1, e2, e3, and_nn]
  exact ⟨_, rfl⟩
theorem step_ok (d : Nat) {σ : AH} {p : Nat} {P : Pz} (G : Geo σ) (H : PosAt σ p P) {s : Nat} (hs : s < 2) : runF initOf tbl (d + 2) 39 [.obj p, .int ((sqN s : Nat) : Int), .int ((1 - s : Nat) : Int)] σ = some (.int ((stepN P.b s : Nat) : Int), σ) := by
  have h1 := H.obj
  unfold posFs at h1
  have p21 := attr_i (a := 21) σ h1 rfl
  have p22 := attr_i (a := 22) σ h1 rfl
  have p18 := attr_i (a := 18) σ h1 rfl
  obtain ⟨fs, g21, f9, f10, _⟩ := geoFs G
  have a9 := attr_i (a := 9) σ g21 f9
  have a10 := attr_i (a := 10) σ g21 f10
  have pw := pawn_ok d G H hs
  have sn := step_nat ⟨s, hs⟩
  have sq : sqN s < 2000 := by unfold sqN; split <;> lia
  have e1 := nat_at G sn.2.1 sq
  have e2 := nat_at G sn.2.2 sq
  dsimp only at e1 e2
  have k2 : subV (.obj (p + 4)) (.int 2) σ = some (.int ((Kb P.b 2 : Nat) : Int)) := kind_at H (k := 2) (by lia)
  have k6 : subV (.obj (p + 4)) (.int 6) σ = some (.int ((Kb P.b 6 : Nat) : Int)) := kind_at H (k := 6) (by lia)
  have e3 := side_at H (s := 1 - s) (by lia)
  refine run_ret' (fn := f_step_attackers) rfl rfl ?_
  show ∃ env', exSs _ _ f_step_attackers.body ([some (.obj p), some (.int ((sqN s : Nat) : Int)), some (.int ((1 - s : Nat) : Int)), none, none]) σ = _
  generalize runF initOf tbl (d + 1) = F at *
  unfold stepN
  simp only [y_nil, y_cons, k_seq_n, k_seq_r, k_seq_c, y_asg, k_asg_s, k_end_s, y_asgA, k_asgA_s, k_asgA2_s, y_unp, k_unp_s, k_unp2_s, k_unp3_s, y_unpA, k_unpA_s, k_unpA2_s, y_aug, k_aug_s, k_aug2_s, y_augA, k_augA_s, k_augA2_s, k_augA3_s, k_augA4_s, y_ife, k_ife_t, k_ife_f, y_for, y_forT, k_for_s, y_ret, k_ret_s, y_exp, k_exp_s, y_cont, y_try, k_var_s, z_cst, z_var, z_tab, z_bin, k_bin_s, k_bin2_s, z_neg, k_neg_s, z_inv, k_inv_s, z_not, k_not_b, z_ife, k_ifE_t, k_ifE_f, k_bool_s, z_cmp, k_cmp_s, z_bop, k_bop_tt, k_bop_tf, k_bop_ft, k_bop_ff, z_attr, k_attr_s, z_sub, k_sub_s, k_sub2_s, z_slice, k_slice_s, k_slice2_s, k_slice3_s, z_rev, k_rev_s, z_list, z_tup, k_list0, k_list1, k_list6, k_tup2, k_tup3, k_tup4, z_call, k_call_s, z_new, k_new_s, k_new2_s, z_bi, k_bi_s, z_meth, k_meth_s, k_meth2_s, k_meth3_s, lst_str, z_comp, z_nil, z_cons, k_cons_s, k_cons2_s, k_tst_s, c_one, k_one_s, c_cons, k_cc_s, k_cc2_t, k_cc2_f, t_val, k_val_s, t_not, k_tnot_s, t_bop, k_tbop_tt, k_tbop_tf, k_tbop_ft, k_tbop_ff, t_cmp, k_tcmp_s, i_nil, b_add, b_sub, b_and, b_or, b_xor, u_add, u_sub, u_or, u_xor, m_eq, m_ne, m_lt, m_le, m_gt, m_ge, m_seq, m_sne, v_bool, v_int, Bool.not_true, Bool.not_false, Option.join_some, g0, g1, g2, g3, g4, g5, g6, g7, g8, g9, g10, g11, s0, s1, s2, s3, s4, s5, s6, s7, s8, s9, s10, s11, f_step_attackers, p21, p22, p18, a9, a10, e1, e2, e3, k2, k6, and_nn, or_nn, pw]
  exact ⟨_, rfl⟩
theorem sliders_ok (d : Nat) {σ : AH} {p : Nat} {P : Pz} (H : PosAt σ p P) : runF initOf tbl (d + 1) 36 [.obj p] σ = some (.int ((Kb P.b 4 ||| Kb P.b 5 : Nat) : Int), σ) ∧ runF initOf tbl (d + 1) 37 [.obj p] σ = some (.int ((Kb P.b 3 ||| Kb P.b 5 : Nat) : Int), σ) := by
  have h1 := H.obj
  unfold posFs at h1
  have p21 := attr_i (a := 21) σ h1 rfl
  have k3 : subV (.obj (p + 4)) (.int 3) σ = some (.int ((Kb P.b 3 : Nat) : Int)) := kind_at H (k := 3) (by lia)
  have k4 : subV (.obj (p + 4)) (.int 4) σ = some (.int ((Kb P.b 4 : Nat) : Int)) := kind_at H (k := 4) (by lia)
  have k5 : subV (.obj (p + 4)) (.int 5) σ = some (.int ((Kb P.b 5 : Nat) : Int)) := kind_at H (k := 5) (by lia)
  constructor
  · refine run_ret' (fn := f_straight_sliders) rfl rfl ?_
    show ∃ env', exSs _ _ f_straight_sliders.body ([some (.obj p)]) σ = _
    generalize runF initOf tbl d = F at *
    simp only [y_nil, y_cons, k_seq_n, k_seq_r, k_seq_c, y_asg, k_asg_s, k_end_s, y_asgA, k_asgA_s, k_asgA2_s, y_unp, k_unp_s, k_unp2_s, k_unp3_s, y_unpA, k_unpA_s, k_unpA2_s, y_aug, k_aug_s, k_aug2_s, y_augA, k_augA_s, k_augA2_s, k_augA3_s, k_augA4_s, y_ife, k_ife_t, k_ife_f, y_for, y_forT, k_for_s, y_ret, k_ret_s, y_exp, k_exp_s, y_cont, y_try, k_var_s, z_cst, z_var, z_tab, z_bin, k_bin_s, k_bin2_s, z_neg, k_neg_s, z_inv, k_inv_s, z_not, k_not_b, z_ife, k_ifE_t, k_ifE_f, k_bool_s, z_cmp, k_cmp_s, z_bop, k_bop_tt, k_bop_tf, k_bop_ft, k_bop_ff, z_attr, k_attr_s, z_sub, k_sub_s, k_sub2_s, z_slice, k_slice_s, k_slice2_s, k_slice3_s, z_rev, k_rev_s, z_list, z_tup, k_list0, k_list1, k_list6, k_tup2, k_tup3, k_tup4, z_call, k_call_s, z_new, k_new_s, k_new2_s, z_bi, k_bi_s, z_meth, k_meth_s, k_meth2_s, k_meth3_s, lst_str, z_comp, z_nil, z_cons, k_cons_s, k_cons2_s, k_tst_s, c_one, k_one_s, c_cons, k_cc_s, k_cc2_t, k_cc2_f, t_val, k_val_s, t_not, k_tnot_s, t_bop, k_tbop_tt, k_tbop_tf, k_tbop_ft, k_tbop_ff, t_cmp, k_tcmp_s, i_nil, b_add, b_sub, b_and, b_or, b_xor, u_add, u_sub, u_or, u_xor, m_eq, m_ne, m_lt, m_le, m_gt, m_ge, m_seq, m_sne, v_bool, v_int, Bool.not_true, Bool.not_false, Option.join_some, g0, g1, g2, g3, g4, g5, g6, g7, g8, g9, g10, g11, s0, s1, s2, s3, s4, s5, s6, s7, s8, s9, s10, s11, f_straight_sliders, p21, k4, k5, or_nn]
    exact ⟨_, rfl⟩
  · refine run_ret' (fn := f_slanting_sliders) rfl rfl ?_
    show ∃ env', exSs _ _ f_slanting_sliders.body ([some (.obj p)]) σ = _
    generalize runF initOf tbl d = F at *
    simp only [y_nil, y_cons, k_seq_n, k_seq_r, k_seq_c, y_asg, k_asg_s, k_end_s, y_asgA, k_asgA_s, k_asgA2_s, y_unp, k_unp_s, k_unp2_s, k_unp3_s, y_unpA, k_unpA_s, k_unpA2_s, y_aug, k_aug_s, k_aug2_s, y_augA, k_augA_s, k_augA2_s, k_augA3_s, k_augA4_s, y_ife, k_ife_t, k_ife_f, y_for, y_forT, k_for_s, y_ret, k_ret_s, y_exp, k_exp_s, y_cont, y_try, k_var_s, z_cst, z_var, z_tab, z_bin, k_bin_s, k_bin2_s, z_neg, k_neg_s, z_inv, k_inv_s, z_not, k_not_b, z_ife, k_ifE_t, k_ifE_f, k_bool_s, z_cmp, k_cmp_s, z_bop, k_bop_tt, k_bop_tf, k_bop_ft, k_bop_ff, z_attr, k_attr_s, z_sub, k_sub_s, k_sub2_s, z_slice, k_slice_s, k_slice2_s, k_slice3_s, z_rev, k_rev_s, z_list, z_tup, k_list0, k_list1, k_list6, k_tup2, k_tup3, k_tup4, z_call, k_call_s, z_new, k_new_s, k_new2_s, z_bi, k_bi_s, z_meth, k_meth_s, k_meth2_s, k_meth3_s, lst_str, z_comp, z_nil, z_cons, k_cons_s, k_cons2_s, k_tst_s, c_one, k_one_s, c_cons, k_cc_s, k_cc2_t, k_cc2_f, t_val, k_val_s, t_not, k_tnot_s, t_bop, k_tbop_tt, k_tbop_tf, k_tbop_ft, k_tbop_ff, t_cmp, k_tcmp_s, i_nil, b_add, b_sub, b_and, b_or, b_xor, u_add, u_sub, u_or, u_xor, m_eq, m_ne, m_lt, m_le, m_gt, m_ge, m_seq, m_sne, v_bool, v_int, Bool.not_true, Bool.not_false, Option.join_some, g0, g1, g2, g3, g4, g5, g6, g7, g8, g9, g10, g11, s0, s1, s2, s3, s4, s5, s6, s7, s8, s9, s10, s11, f_slanting_sliders, p21, k3, k5, or_nn]
    exact ⟨_, rfl⟩
noncomputable def stN (b : List Int) (s : Nat) : Nat := (Kb b 4 ||| Kb b 5) &&& Sb b (1 - s)
noncomputable def slN (b : List Int) (s : Nat) : Nat := (Kb b 3 ||| Kb b 5) &&& Sb b (1 - s)
noncomputable def occN (b : List Int) : Nat := Sb b 0 ||| Sb b 1
noncomputable def rkN (b : List Int) (s : Nat) : Nat := orN (rayO (sqN s) (occN b)) 0 4 &&& stN b s
noncomputable def bsN (b : List Int) (s : Nat) : Nat := orN (rayO (sqN s) (occN b)) 4 4 &&& slN b s
noncomputable def chk (b : List Int) (s : Nat) : Bool := !decide (stepN b s = 0) || (!decide (stN b s = 0) && !decide (rkN b s = 0)) || (!decide (slN b s = 0) && !decide (bsN b s = 0))
theorem cast0 (n : Nat) : decide ((n : Int) = 0) = decide (n = 0) := by
  rw [Bool.eq_iff_iff, decide_eq_true_eq, decide_eq_true_eq]; lia
theorem is_attacked_ok (d : Nat) {σ : AH} {p : Nat} {P : Pz} (G : Geo σ) (H : PosAt σ p P) {s : Nat} (hs : s < 2) :
    runF initOf tbl (d + 4) 40 [.obj p, .int ((sqN s : Nat) : Int), .int ((1 - s : Nat) : Int), .int ((occN P.b : Nat) : Int)] σ = some (.bool (chk P.b s), σ) := by
  have h1 := H.obj
  unfold posFs at h1
  have p22 := attr_i (a := 22) σ h1 rfl
  have p18 := attr_i (a := 18) σ h1 rfl
  have e3 := side_at H (s := 1 - s) (by lia)
  have st := step_ok (d + 1) G H hs
  have sl := sliders_ok (d + 2) H
  have rk := rook_ok d G hs (occN P.b)
  have bs := bishop_ok d G hs (occN P.b)
  have sl1 := sl.1
  have sl2 := sl.2
  have u1 : (Kb P.b 4 ||| Kb P.b 5) &&& Sb P.b (1 - s) = stN P.b s := rfl
  have u2 : (Kb P.b 3 ||| Kb P.b 5) &&& Sb P.b (1 - s) = slN P.b s := rfl
  have u3 : orN (rayO (sqN s) (occN P.b)) 0 4 &&& stN P.b s = rkN P.b s := rfl
  have u4 : orN (rayO (sqN s) (occN P.b)) 4 4 &&& slN P.b s = bsN P.b s := rfl
  refine run_ret' (fn := f_is_attacked) rfl rfl ?_
  show ∃ env', exSs _ _ f_is_attacked.body ([some (.obj p), some (.int ((sqN s : Nat) : Int)), some (.int ((1 - s : Nat) : Int)), some (.int ((occN P.b : Nat) : Int)), none, none, none, none]) σ = _
  generalize runF initOf tbl (d + 3) = F at *
  unfold chk
  simp only [y_nil, y_cons, k_seq_n, k_seq_r, k_seq_c, y_asg, k_asg_s, k_end_s, y_asgA, k_asgA_s, k_asgA2_s, y_unp, k_unp_s, k_unp2_s, k_unp3_s, y_unpA, k_unpA_s, k_unpA2_s, y_aug, k_aug_s, k_aug2_s, y_augA, k_augA_s, k_augA2_s, k_augA3_s, k_augA4_s, y_ife, k_ife_t, k_ife_f, y_for, y_forT, k_for_s, y_ret, k_ret_s, y_exp, k_exp_s, y_cont, y_try, k_var_s, z_cst, z_var, z_tab, z_bin, k_bin_s, k_bin2_s, z_neg, k_neg_s, z_inv, k_inv_s, z_not, k_not_b, z_ife, k_ifE_t, k_ifE_f, k_bool_s, z_cmp, k_cmp_s, z_bop, k_bop_tt, k_bop_tf, k_bop_ft, k_bop_ff, z_attr, k_attr_s, z_sub, k_sub_s, k_sub2_s, z_slice, k_slice_s, k_slice2_s, k_slice3_s, z_rev, k_rev_s, z_list, z_tup, k_list0, k_list1, k_list6, k_tup2, k_tup3, k_tup4, z_call, k_call_s, z_new, k_new_s, k_new2_s, z_bi, k_bi_s, z_meth, k_meth_s, k_meth2_s, k_meth3_s, lst_str, z_comp, z_nil, z_cons, k_cons_s, k_cons2_s, k_tst_s, c_one, k_one_s, c_cons, k_cc_s, k_cc2_t, k_cc2_f, t_val, k_val_s, t_not, k_tnot_s, t_bop, k_tbop_tt, k_tbop_tf, k_tbop_ft, k_tbop_ff, t_cmp, k_tcmp_s, i_nil, b_add, b_sub, b_and, b_or, b_xor, u_add, u_sub, u_or, u_xor, m_eq, m_ne, m_lt, m_le, m_gt, m_ge, m_seq, m_sne, v_bool, v_int, Bool.not_true, Bool.not_false, Option.join_some, g0, g1, g2, g3, g4, g5, g6, g7, g8, g9, g10, g11, s0, s1, s2, s3, s4, s5, s6, s7, s8, s9, s10, s11, f_is_attacked, p22, p18, e3, st, cast0]
  cases d1 : decide (stepN P.b s = 0) with
  | false =>
    simp only [y_nil, y_cons, k_seq_n, k_seq_r, k_seq_c, y_asg, k_asg_s, k_end_s, y_asgA, k_asgA_s, k_asgA2_s, y_unp, k_unp_s, k_unp2_s, k_unp3_s, y_unpA, k_unpA_s, k_unpA2_s, y_aug, k_aug_s, k_aug2_s, y_augA, k_augA_s, k_augA2_s, k_augA3_s, k_augA4_s, y_ife, k_ife_t, k_ife_f, y_for, y_forT, k_for_s, y_ret, k_ret_s, y_exp, k_exp_s, y_cont, y_try, k_var_s, z_cst, z_var, z_tab, z_bin, k_bin_s, k_bin2_s, z_neg, k_neg_s, z_inv, k_inv_s, z_not, k_not_b, z_ife, k_ifE_t, k_ifE_f, k_bool_s, z_cmp, k_cmp_s, z_bop, k_bop_tt, k_bop_tf, k_bop_ft, k_bop_ff, z_attr, k_attr_s, z_sub, k_sub_s, k_sub2_s, z_slice, k_slice_s, k_slice2_s, k_slice3_s, z_rev, k_rev_s, z_list, z_tup, k_list0, k_list1, k_list6, k_tup2, k_tup3, k_tup4, z_call, k_call_s, z_new, k_new_s, k_new2_s, z_bi, k_bi_s, z_meth, k_meth_s, k_meth2_s, k_meth3_s, lst_str, z_comp, z_nil, z_cons, k_cons_s, k_cons2_s, k_tst_s, c_one, k_one_s, c_cons, k_cc_s, k_cc2_t, k_cc2_f, t_val, k_val_s, t_not, k_tnot_s, t_bop, k_tbop_tt, k_tbop_tf, k_tbop_ft, k_tbop_ff, t_cmp, k_tcmp_s, i_nil, b_add, b_sub, b_and, b_or, b_xor, u_add, u_sub, u_or, u_xor, m_eq, m_ne, m_lt, m_le, m_gt, m_ge, m_seq, m_sne, v_bool, v_int, Bool.not_true, Bool.not_false, Option.join_some, g0, g1, g2, g3, g4, g5, g6, g7, g8, g9, g10, g11, s0, s1, s2, s3, s4, s5, s6, s7, s8, s9, s10, s11, Bool.true_or]
    exact ⟨_, rfl⟩
  | true =>
    simp only [y_nil, y_cons, k_seq_n, k_seq_r, k_seq_c, y_asg, k_asg_s, k_end_s, y_asgA, k_asgA_s, k_asgA2_s, y_unp, k_unp_s, k_unp2_s, k_unp3_s, y_unpA, k_unpA_s, k_unpA2_s, y_aug, k_aug_s, k_aug2_s, y_augA, k_augA_s, k_augA2_s, k_augA3_s, k_augA4_s, y_ife, k_ife_t, k_ife_f, y_for, y_forT, k_for_s, y_ret, k_ret_s, y_exp, k_exp_s, y_cont, y_try, k_var_s, z_cst, z_var, z_tab, z_bin, k_bin_s, k_bin2_s, z_neg, k_neg_s, z_inv, k_inv_s, z_not, k_not_b, z_ife, k_ifE_t, k_ifE_f, k_bool_s, z_cmp, k_cmp_s, z_bop, k_bop_tt, k_bop_tf, k_bop_ft, k_bop_ff, z_attr, k_attr_s, z_sub, k_sub_s, k_sub2_s, z_slice, k_slice_s, k_slice2_s, k_slice3_s, z_rev, k_rev_s, z_list, z_tup, k_list0, k_list1, k_list6, k_tup2, k_tup3, k_tup4, z_call, k_call_s, z_new, k_new_s, k_new2_s, z_bi, k_bi_s, z_meth, k_meth_s, k_meth2_s, k_meth3_s, lst_str, z_comp, z_nil, z_cons, k_cons_s, k_cons2_s, k_tst_s, c_one, k_one_s, c_cons, k_cc_s, k_cc2_t, k_cc2_f, t_val, k_val_s, t_not, k_tnot_s, t_bop, k_tbop_tt, k_tbop_tf, k_tbop_ft, k_tbop_ff, t_cmp, k_tcmp_s, i_nil, b_add, b_sub, b_and, b_or, b_xor, u_add, u_sub, u_or, u_xor, m_eq, m_ne, m_lt, m_le, m_gt, m_ge, m_seq, m_sne, v_bool, v_int, Bool.not_true, Bool.not_false, Option.join_some, g0, g1, g2, g3, g4, g5, g6, g7, g8, g9, g10, g11, s0, s1, s2, s3, s4, s5, s6, s7, s8, s9, s10, s11, p22, p18, e3, sl1, u1, cast0, and_nn]
    cases d2 : decide (stN P.b s = 0) with
    | true =>
      simp only [y_nil, y_cons, k_seq_n, k_seq_r, k_seq_c, y_asg, k_asg_s, k_end_s, y_asgA, k_asgA_s, k_asgA2_s, y_unp, k_unp_s, k_unp2_s, k_unp3_s, y_unpA, k_unpA_s, k_unpA2_s, y_aug, k_aug_s, k_aug2_s, y_augA, k_augA_s, k_augA2_s, k_augA3_s, k_augA4_s, y_ife, k_ife_t, k_ife_f, y_for, y_forT, k_for_s, y_ret, k_ret_s, y_exp, k_exp_s, y_cont, y_try, k_var_s, z_cst, z_var, z_tab, z_bin, k_bin_s, k_bin2_s, z_neg, k_neg_s, z_inv, k_inv_s, z_not, k_not_b, z_ife, k_ifE_t, k_ifE_f, k_bool_s, z_cmp, k_cmp_s, z_bop, k_bop_tt, k_bop_tf, k_bop_ft, k_bop_ff, z_attr, k_attr_s, z_sub, k_sub_s, k_sub2_s, z_slice, k_slice_s, k_slice2_s, k_slice3_s, z_rev, k_rev_s, z_list, z_tup, k_list0, k_list1, k_list6, k_tup2, k_tup3, k_tup4, z_call, k_call_s, z_new, k_new_s, k_new2_s, z_bi, k_bi_s, z_meth, k_meth_s, k_meth2_s, k_meth3_s, lst_str, z_comp, z_nil, z_cons, k_cons_s, k_cons2_s, k_tst_s, c_one, k_one_s, c_cons, k_cc_s, k_cc2_t, k_cc2_f, t_val, k_val_s, t_not, k_tnot_s, t_bop, k_tbop_tt, k_tbop_tf, k_tbop_ft, k_tbop_ff, t_cmp, k_tcmp_s, i_nil, b_add, b_sub, b_and, b_or, b_xor, u_add, u_sub, u_or, u_xor, m_eq, m_ne, m_lt, m_le, m_gt, m_ge, m_seq, m_sne, v_bool, v_int, Bool.not_true, Bool.not_false, Option.join_some, g0, g1, g2, g3, g4, g5, g6, g7, g8, g9, g10, g11, s0, s1, s2, s3, s4, s5, s6, s7, s8, s9, s10, s11, p22, p18, e3, sl2, u2, cast0, and_nn]
      cases d4 : decide (slN P.b s = 0) with
      | true => exact ⟨_, rfl⟩
      | false =>
        simp only [y_nil, y_cons, k_seq_n, k_seq_r, k_seq_c, y_asg, k_asg_s, k_end_s, y_asgA, k_asgA_s, k_asgA2_s, y_unp, k_unp_s, k_unp2_s, k_unp3_s, y_unpA, k_unpA_s, k_unpA2_s, y_aug, k_aug_s, k_aug2_s, y_augA, k_augA_s, k_augA2_s, k_augA3_s, k_augA4_s, y_ife, k_ife_t, k_ife_f, y_for, y_forT, k_for_s, y_ret, k_ret_s, y_exp, k_exp_s, y_cont, y_try, k_var_s, z_cst, z_var, z_tab, z_bin, k_bin_s, k_bin2_s, z_neg, k_neg_s, z_inv, k_inv_s, z_not, k_not_b, z_ife, k_ifE_t, k_ifE_f, k_bool_s, z_cmp, k_cmp_s, z_bop, k_bop_tt, k_bop_tf, k_bop_ft, k_bop_ff, z_attr, k_attr_s, z_sub, k_sub_s, k_sub2_s, z_slice, k_slice_s, k_slice2_s, k_slice3_s, z_rev, k_rev_s, z_list, z_tup, k_list0, k_list1, k_list6, k_tup2, k_tup3, k_tup4, z_call, k_call_s, z_new, k_new_s, k_new2_s, z_bi, k_bi_s, z_meth, k_meth_s, k_meth2_s, k_meth3_s, lst_str, z_comp, z_nil, z_cons, k_cons_s, k_cons2_s, k_tst_s, c_one, k_one_s, c_cons, k_cc_s, k_cc2_t, k_cc2_f, t_val, k_val_s, t_not, k_tnot_s, t_bop, k_tbop_tt, k_tbop_tf, k_tbop_ft, k_tbop_ff, t_cmp, k_tcmp_s, i_nil, b_add, b_sub, b_and, b_or, b_xor, u_add, u_sub, u_or, u_xor, m_eq, m_ne, m_lt, m_le, m_gt, m_ge, m_seq, m_sne, v_bool, v_int, Bool.not_true, Bool.not_false, Option.join_some, g0, g1, g2, g3, g4, g5, g6, g7, g8, g9, g10, g11, s0, s1, s2, s3, s4, s5, s6, s7, s8, s9, s10, s11, bs, u4, cast0, and_nn, Bool.false_or, Bool.true_and, Bool.false_and, Bool.and_false]
        exact ⟨_, rfl⟩
    | false =>
      simp only [y_nil, y_cons, k_seq_n, k_seq_r, k_seq_c, y_asg, k_asg_s, k_end_s, y_asgA, k_asgA_s, k_asgA2_s, y_unp, k_unp_s, k_unp2_s, k_unp3_s, y_unpA, k_unpA_s, k_unpA2_s, y_aug, k_aug_s, k_aug2_s, y_augA, k_augA_s, k_augA2_s, k_augA3_s, k_augA4_s, y_ife, k_ife_t, k_ife_f, y_for, y_forT, k_for_s, y_ret, k_ret_s, y_exp, k_exp_s, y_cont, y_try, k_var_s, z_cst, z_var, z_tab, z_bin, k_bin_s, k_bin2_s, z_neg, k_neg_s, z_inv, k_inv_s, z_not, k_not_b, z_ife, k_ifE_t, k_ifE_f, k_bool_s, z_cmp, k_cmp_s, z_bop, k_bop_tt, k_bop_tf, k_bop_ft, k_bop_ff, z_attr, k_attr_s, z_sub, k_sub_s, k_sub2_s, z_slice, k_slice_s, k_slice2_s, k_slice3_s, z_rev, k_rev_s, z_list, z_tup, k_list0, k_list1, k_list6, k_tup2, k_tup3, k_tup4, z_call, k_call_s, z_new, k_new_s, k_new2_s, z_bi, k_bi_s, z_meth, k_meth_s, k_meth2_s, k_meth3_s, lst_str, z_comp, z_nil, z_cons, k_cons_s, k_cons2_s, k_tst_s, c_one, k_one_s, c_cons, k_cc_s, k_cc2_t, k_cc2_f, t_val, k_val_s, t_not, k_tnot_s, t_bop, k_tbop_tt, k_tbop_tf, k_tbop_ft, k_tbop_ff, t_cmp, k_tcmp_s, i_nil, b_add, b_sub, b_and, b_or, b_xor, u_add, u_sub, u_or, u_xor, m_eq, m_ne, m_lt, m_le, m_gt, m_ge, m_seq, m_sne, v_bool, v_int, Bool.not_true, Bool.not_false, Option.join_some, g0, g1, g2, g3, g4, g5, g6, g7, g8, g9, g10, g11, s0, s1, s2, s3, s4, s5, s6, s7, s8, s9, s10, s11, p22, p18, e3, rk, u3, cast0, and_nn]
      cases d3 : decide (rkN P.b s = 0) with
      | false =>
        simp only [y_nil, y_cons, k_seq_n, k_seq_r, k_seq_c, y_asg, k_asg_s, k_end_s, y_asgA, k_asgA_s, k_asgA2_s, y_unp, k_unp_s, k_unp2_s, k_unp3_s, y_unpA, k_unpA_s, k_unpA2_s, y_aug, k_aug_s, k_aug2_s, y_augA, k_augA_s, k_augA2_s, k_augA3_s, k_augA4_s, y_ife, k_ife_t, k_ife_f, y_for, y_forT, k_for_s, y_ret, k_ret_s, y_exp, k_exp_s, y_cont, y_try, k_var_s, z_cst, z_var, z_tab, z_bin, k_bin_s, k_bin2_s, z_neg, k_neg_s, z_inv, k_inv_s, z_not, k_not_b, z_ife, k_ifE_t, k_ifE_f, k_bool_s, z_cmp, k_cmp_s, z_bop, k_bop_tt, k_bop_tf, k_bop_ft, k_bop_ff, z_attr, k_attr_s, z_sub, k_sub_s, k_sub2_s, z_slice, k_slice_s, k_slice2_s, k_slice3_s, z_rev, k_rev_s, z_list, z_tup, k_list0, k_list1, k_list6, k_tup2, k_tup3, k_tup4, z_call, k_call_s, z_new, k_new_s, k_new2_s, z_bi, k_bi_s, z_meth, k_meth_s, k_meth2_s, k_meth3_s, lst_str, z_comp, z_nil, z_cons, k_cons_s, k_cons2_s, k_tst_s, c_one, k_one_s, c_cons, k_cc_s, k_cc2_t, k_cc2_f, t_val, k_val_s, t_not, k_tnot_s, t_bop, k_tbop_tt, k_tbop_tf, k_tbop_ft, k_tbop_ff, t_cmp, k_tcmp_s, i_nil, b_add, b_sub, b_and, b_or, b_xor, u_add, u_sub, u_or, u_xor, m_eq, m_ne, m_lt, m_le, m_gt, m_ge, m_seq, m_sne, v_bool, v_int, Bool.not_true, Bool.not_false, Option.join_some, g0, g1, g2, g3, g4, g5, g6, g7, g8, g9, g10, g11, s0, s1, s2, s3, s4, s5, s6, s7, s8, s9, s10, s11, Bool.true_or]
        exact ⟨_, rfl⟩
      | true =>
        simp only [y_nil, y_cons, k_seq_n, k_seq_r, k_seq_c, y_asg, k_asg_s, k_end_s, y_asgA, k_asgA_s, k_asgA2_s, y_unp, k_unp_s, k_unp2_s, k_unp3_s, y_unpA, k_unpA_s, k_unpA2_s, y_aug, k_aug_s, k_aug2_s, y_augA, k_augA_s, k_augA2_s, k_augA3_s, k_augA4_s, y_ife, k_ife_t, k_ife_f, y_for, y_forT, k_for_s, y_ret, k_ret_s, y_exp, k_exp_s, y_cont, y_try, k_var_s, z_cst, z_var, z_tab, z_bin, k_bin_s, k_bin2_s, z_neg, k_neg_s, z_inv, k_inv_s, z_not, k_not_b, z_ife, k_ifE_t, k_ifE_f, k_bool_s, z_cmp, k_cmp_s, z_bop, k_bop_tt, k_bop_tf, k_bop_ft, k_bop_ff, z_attr, k_attr_s, z_sub, k_sub_s, k_sub2_s, z_slice, k_slice_s, k_slice2_s, k_slice3_s, z_rev, k_rev_s, z_list, z_tup, k_list0, k_list1, k_list6, k_tup2, k_tup3, k_tup4, z_call, k_call_s, z_new, k_new_s, k_new2_s, z_bi, k_bi_s, z_meth, k_meth_s, k_meth2_s, k_meth3_s, lst_str, z_comp, z_nil, z_cons, k_cons_s, k_cons2_s, k_tst_s, c_one, k_one_s, c_cons, k_cc_s, k_cc2_t, k_cc2_f, t_val, k_val_s, t_not, k_tnot_s, t_bop, k_tbop_tt, k_tbop_tf, k_tbop_ft, k_tbop_ff, t_cmp, k_tcmp_s, i_nil, b_add, b_sub, b_and, b_or, b_xor, u_add, u_sub, u_or, u_xor, m_eq, m_ne, m_lt, m_le, m_gt, m_ge, m_seq, m_sne, v_bool, v_int, Bool.not_true, Bool.not_false, Option.join_some, g0, g1, g2, g3, g4, g5, g6, g7, g8, g9, g10, g11, s0, s1, s2, s3, s4, s5, s6, s7, s8, s9, s10, s11, p22, p18, e3, sl2, u2, cast0, and_nn]
        cases d4 : decide (slN P.b s = 0) with
        | true => exact ⟨_, rfl⟩
        | false =>
          simp only [y_nil, y_cons, k_seq_n, k_seq_r, k_seq_c, y_asg, k_asg_s, k_end_s, y_asgA, k_asgA_s, k_asgA2_s, y_unp, k_unp_s, k_unp2_s, k_unp3_s, y_unpA, k_unpA_s, k_unpA2_s, y_aug, k_aug_s, k_aug2_s, y_augA, k_augA_s, k_augA2_s, k_augA3_s, k_augA4_s, y_ife, k_ife_t, k_ife_f, y_for, y_forT, k_for_s, y_ret, k_ret_s, y_exp, k_exp_s, y_cont, y_try, k_var_s, z_cst, z_var, z_tab, z_bin, k_bin_s, k_bin2_s, z_neg, k_neg_s, z_inv, k_inv_s, z_not, k_not_b, z_ife, k_ifE_t, k_ifE_f, k_bool_s, z_cmp, k_cmp_s, z_bop, k_bop_tt, k_bop_tf, k_bop_ft, k_bop_ff, z_attr, k_attr_s, z_sub, k_sub_s, k_sub2_s, z_slice, k_slice_s, k_slice2_s, k_slice3_s, z_rev, k_rev_s, z_list, z_tup, k_list0, k_list1, k_list6, k_tup2, k_tup3, k_tup4, z_call, k_call_s, z_new, k_new_s, k_new2_s, z_bi, k_bi_s, z_meth, k_meth_s, k_meth2_s, k_meth3_s, lst_str, z_comp, z_nil, z_cons, k_cons_s, k_cons2_s, k_tst_s, c_one, k_one_s, c_cons, k_cc_s, k_cc2_t, k_cc2_f, t_val, k_val_s, t_not, k_tnot_s, t_bop, k_tbop_tt, k_tbop_tf, k_tbop_ft, k_tbop_ff, t_cmp, k_tcmp_s, i_nil, b_add, b_sub, b_and, b_or, b_xor, u_add, u_sub, u_or, u_xor, m_eq, m_ne, m_lt, m_le, m_gt, m_ge, m_seq, m_sne, v_bool, v_int, Bool.not_true, Bool.not_false, Option.join_some, g0, g1, g2, g3, g4, g5, g6, g7, g8, g9, g10, g11, s0, s1, s2, s3, s4, s5, s6, s7, s8, s9, s10, s11, bs, u4, cast0, and_nn, Bool.false_or, Bool.true_and, Bool.false_and, Bool.and_false]
          exact ⟨_, rfl⟩
theorem in_check_ok (d : Nat) {σ : AH} {p : Nat} {P : Pz} (G : Geo σ) (H : PosAt σ p P) (HK : KingsAt P.b) {s : Nat} (hs : s < 2) :
    runF initOf tbl (d + 5) 41 [.obj p, .int (s : Int)] σ = some (.bool (chk P.b s), σ) := by
  have h1 := H.obj
  unfold posFs at h1
  have p22 := attr_i (a := 22) σ h1 rfl
  have s0' : subV (.obj (p + 5)) (.int 0) σ = some (.int ((Sb P.b 0 : Nat) : Int)) := side_at H (s := 0) (by lia)
  have s1' : subV (.obj (p + 5)) (.int 1) σ = some (.int ((Sb P.b 1 : Nat) : Int)) := side_at H (s := 1) (by lia)
  have ks := king_square_ok (d + 1) H HK hs
  have ia := is_attacked_ok d G H hs
  have ci : (1 : Int) - (s : Int) = ((1 - s : Nat) : Int) := by lia
  have u : Sb P.b 0 ||| Sb P.b 1 = occN P.b := rfl
  refine run_ret' (fn := f_in_check_of) rfl rfl ?_
  show ∃ env', exSs _ _ f_in_check_of.body ([some (.obj p), some (.int (s : Int)), none]) σ = _
  generalize runF initOf tbl (d + 4) = F at *
  simp only [y_nil, y_cons, k_seq_n, k_seq_r, k_seq_c, y_asg, k_asg_s, k_end_s, y_asgA, k_asgA_s, k_asgA2_s, y_unp, k_unp_s, k_unp2_s, k_unp3_s, y_unpA, k_unpA_s, k_unpA2_s, y_aug, k_aug_s, k_aug2_s, y_augA, k_augA_s, k_augA2_s, k_augA3_s, k_augA4_s, y_ife, k_ife_t, k_ife_f, y_for, y_forT, k_for_s, y_ret, k_ret_s, y_exp, k_exp_s, y_cont, y_try, k_var_s, z_cst, z_var, z_tab, z_bin, k_bin_s, k_bin2_s, z_neg, k_neg_s, z_inv, k_inv_s, z_not, k_not_b, z_ife, k_ifE_t, k_ifE_f, k_bool_s, z_cmp, k_cmp_s, z_bop, k_bop_tt, k_bop_tf, k_bop_ft, k_bop_ff, z_attr, k_attr_s, z_sub, k_sub_s, k_sub2_s, z_slice, k_slice_s, k_slice2_s, k_slice3_s, z_rev, k_rev_s, z_list, z_tup, k_list0, k_list1, k_list6, k_tup2, k_tup3, k_tup4, z_call, k_call_s, z_new, k_new_s, k_new2_s, z_bi, k_bi_s, z_meth, k_meth_s, k_meth2_s, k_meth3_s, lst_str, z_comp, z_nil, z_cons, k_cons_s, k_cons2_s, k_tst_s, c_one, k_one_s, c_cons, k_cc_s, k_cc2_t, k_cc2_f, t_val, k_val_s, t_not, k_tnot_s, t_bop, k_tbop_tt, k_tbop_tf, k_tbop_ft, k_tbop_ff, t_cmp, k_tcmp_s, i_nil, b_add, b_sub, b_and, b_or, b_xor, u_add, u_sub, u_or, u_xor, m_eq, m_ne, m_lt, m_le, m_gt, m_ge, m_seq, m_sne, v_bool, v_int, Bool.not_true, Bool.not_false, Option.join_some, g0, g1, g2, g3, g4, g5, g6, g7, g8, g9, g10, g11, s0, s1, s2, s3, s4, s5, s6, s7, s8, s9, s10, s11, f_in_check_of, p22, s0', s1', or_nn, u, ks, ci, ia]
  exact ⟨_, rfl⟩
end Mine
namespace Mine
open PySem
theorem bitsN_lt (f : Int → Bool) : ∀ b : List Int, bitsN f b < 2 ^ b.length
  | [] => by simp [bitsN]
  | x :: r => by
    have ih := bitsN_lt f r
    rw [bitsN, List.length_cons, Nat.pow_succ]
    split <;> lia
theorem isK_flip {x : Int} (h : CellOk x) (k : Nat) : isK (k : Int) (flipP x) = isK (k : Int) x := by
  rcases h with rfl | ⟨sd, j, h1, h2, h3, rfl⟩
  · rfl
  · rw [flip_is h1 ⟨h2, h3⟩, isK_piece _ _ _ (by lia) ⟨h2, h3⟩, isK_piece _ _ _ h1 ⟨h2, h3⟩]
theorem isSf_fin : ∀ (s sd : Fin 2) (k : Fin 7), 1 ≤ k.val → isS (s.val : Int) (flipP ((sd.val : Int) * 8 + k.val)) = isS ((1 - s.val : Nat) : Int) ((sd.val : Int) * 8 + k.val) := by decide
theorem isS_flip {x : Int} (h : CellOk x) {s : Nat} (hs : s < 2) : isS (s : Int) (flipP x) = isS ((1 - s : Nat) : Int) x := by
  rcases h with rfl | ⟨sd, j, h1, h2, h3, rfl⟩
  · rfl
  · exact isSf_fin ⟨s, hs⟩ ⟨sd, h1⟩ ⟨j, Nat.lt_succ_of_le h3⟩ h2
theorem turn_bits {b : List Int} (hl : b.length = 28) (hb : ∀ x ∈ b, CellOk x) {f g : Int → Bool} (hfg : ∀ x, CellOk x → f (flipP x) = g x) : bitsN f (turnB b) = flipN (bitsN g b) := by
  apply Nat.eq_of_testBit_eq
  intro i
  rw [flip_test, bits_test, bits_test]
  by_cases hi : i < 28
  · have ht := (tsq_lt ⟨i, hi⟩).1
    dsimp only at ht
    have e : b[tsq i]? = some b[tsq i] := List.getElem?_eq_getElem (by lia)
    rw [turnB_get hi, List.getD_eq_getElem?_getD, e, decide_eq_true hi]
    simp only [Option.map_some, Option.getD_some, Bool.true_and]
    exact hfg _ (hb _ (List.getElem_mem _))
  · rw [List.getElem?_eq_none (by unfold turnB; rw [tb_len]; lia), decide_eq_false hi]
    rfl
theorem Kb_turn {b : List Int} (hl : b.length = 28) (hb : ∀ x ∈ b, CellOk x) (k : Nat) : Kb (turnB b) k = flipN (Kb b k) := turn_bits hl hb fun _ h => isK_flip h k
theorem Sb_turn {b : List Int} (hl : b.length = 28) (hb : ∀ x ∈ b, CellOk x) {s : Nat} (hs : s < 2) : Sb (turnB b) s = flipN (Sb b (1 - s)) := turn_bits hl hb fun _ h => isS_flip h hs
theorem Sb_lt {b : List Int} (hl : b.length = 28) (s : Nat) : Sb b s < 2 ^ 28 := by
  have := bitsN_lt (isS (s : Int)) b
  rw [hl] at this; exact this
theorem tabs_flip : natAt 28 24 = flipN (natAt 27 3) ∧ natAt 26 24 = flipN (natAt 26 3) ∧ natAt 33 24 = flipN (natAt 33 3) := by decide +kernel
theorem occ_turn {b : List Int} (hl : b.length = 28) (hb : ∀ x ∈ b, CellOk x) : occN (turnB b) = flipN (occN b) := by
  unfold occN
  rw [Sb_turn hl hb (s := 0) (by lia), Sb_turn hl hb (s := 1) (by lia), flip_or, Nat.or_comm]
theorem rook_turn (occ : Nat) : orN (rayO 24 (flipN occ)) 0 4 = flipN (orN (rayO 3 occ) 0 4) := by
  have r0 := (rayO_flip (k := 0) (by lia) occ).1
  have r1 := (rayO_flip (k := 1) (by lia) occ).1
  have r2 := (rayO_flip (k := 2) (by lia) occ).1
  have r3 := (rayO_flip (k := 3) (by lia) occ).1
  simp only [show kf 0 = 2 from rfl, show kf 1 = 1 from rfl, show kf 2 = 0 from rfl, show kf 3 = 3 from rfl] at r0 r1 r2 r3
  simp only [orN, Nat.zero_or, Nat.zero_add, flip_or, flip_zero, r0, r1, r2, r3]
  apply Nat.eq_of_testBit_eq
  intro i
  simp only [Nat.testBit_or]
  generalize (flipN (rayO 3 occ 0)).testBit i = a
  generalize (flipN (rayO 3 occ 1)).testBit i = b
  generalize (flipN (rayO 3 occ 2)).testBit i = c
  generalize (flipN (rayO 3 occ 3)).testBit i = d
  cases a <;> cases b <;> cases c <;> cases d <;> rfl
theorem bishop_turn (occ : Nat) : orN (rayO 24 (flipN occ)) 4 4 = flipN (orN (rayO 3 occ) 4 4) := by
  have r0 := (rayO_flip (k := 4) (by lia) occ).1
  have r1 := (rayO_flip (k := 5) (by lia) occ).1
  have r2 := (rayO_flip (k := 6) (by lia) occ).1
  have r3 := (rayO_flip (k := 7) (by lia) occ).1
  simp only [show kf 4 = 5 from rfl, show kf 5 = 4 from rfl, show kf 6 = 7 from rfl, show kf 7 = 6 from rfl] at r0 r1 r2 r3
  simp only [orN, Nat.zero_or, show 4 + 0 = 4 from rfl, show 4 + 1 = 5 from rfl, show 4 + 2 = 6 from rfl, show 4 + 3 = 7 from rfl, flip_or, flip_zero, r0, r1, r2, r3]
  apply Nat.eq_of_testBit_eq
  intro i
  simp only [Nat.testBit_or]
  generalize (flipN (rayO 3 occ 4)).testBit i = a
  generalize (flipN (rayO 3 occ 5)).testBit i = b
  generalize (flipN (rayO 3 occ 6)).testBit i = c
  generalize (flipN (rayO 3 occ 7)).testBit i = d
  cases a <;> cases b <;> cases c <;> cases d <;> rfl
theorem zero_turn {x y : Nat} (h : x = flipN y) (hy : y < 2 ^ 28) : decide (x = 0) = decide (y = 0) := by
  rw [Bool.eq_iff_iff, decide_eq_true_eq, decide_eq_true_eq, h]
  exact flip_eq_zero hy
theorem chk_turn0 {b : List Int} (hl : b.length = 28) (hb : ∀ x ∈ b, CellOk x) : chk (turnB b) 1 = chk b 0 := by
  have q0 : sqN 0 = 3 := rfl
  have q1 : sqN 1 = 24 := rfl
  have sS : Sb (turnB b) 0 = flipN (Sb b 1) := Sb_turn hl hb (s := 0) (by lia)
  have lS := Sb_lt hl 1
  have e1 : stepN (turnB b) 1 = flipN (stepN b 0) := by
    unfold stepN
    simp only [q0, q1, show 27 + 1 = 28 from rfl, show 27 + 0 = 27 from rfl, show 1 - 1 = 0 from rfl, show 1 - 0 = 1 from rfl, sS, Kb_turn hl hb, tabs_flip.1, tabs_flip.2.1, tabs_flip.2.2, flip_or, flip_and]
  have e2 : stN (turnB b) 1 = flipN (stN b 0) := by
    unfold stN
    simp only [show 1 - 1 = 0 from rfl, show 1 - 0 = 1 from rfl, sS, Kb_turn hl hb, flip_or, flip_and]
  have e3 : slN (turnB b) 1 = flipN (slN b 0) := by
    unfold slN
    simp only [show 1 - 1 = 0 from rfl, show 1 - 0 = 1 from rfl, sS, Kb_turn hl hb, flip_or, flip_and]
  have e4 : rkN (turnB b) 1 = flipN (rkN b 0) := by
    unfold rkN
    rw [q0, q1, occ_turn hl hb, rook_turn, e2, flip_and]
  have e5 : bsN (turnB b) 1 = flipN (bsN b 0) := by
    unfold bsN
    rw [q0, q1, occ_turn hl hb, bishop_turn, e3, flip_and]
  have l1 : stepN b 0 < 2 ^ 28 := Nat.or_lt_two_pow (Nat.and_lt_two_pow _ lS) (Nat.and_lt_two_pow _ lS)
  have l2 : stN b 0 < 2 ^ 28 := Nat.and_lt_two_pow _ lS
  have l3 : slN b 0 < 2 ^ 28 := Nat.and_lt_two_pow _ lS
  have l4 : rkN b 0 < 2 ^ 28 := Nat.and_lt_two_pow _ l2
  have l5 : bsN b 0 < 2 ^ 28 := Nat.and_lt_two_pow _ l3
  unfold chk
  rw [zero_turn e1 l1, zero_turn e2 l2, zero_turn e3 l3, zero_turn e4 l4, zero_turn e5 l5]
theorem KingsAt.turn {b : List Int} (H : KingsAt b) : KingsAt (turnB b) := by
  have hl := H.len
  refine ⟨tb_len b 28, ?_, ?_, ?_, turnB_ok H.cell⟩
  · rw [turnB_get (by lia), show tsq 3 = 24 from rfl, List.getD_eq_getElem?_getD, H.k1]; rfl
  · rw [turnB_get (by lia), show tsq 24 = 3 from rfl, List.getD_eq_getElem?_getD, H.k0]; rfl
  · intro i x e
    have hi : i < 28 := by have := (List.getElem?_eq_some_iff.mp e).1; rw [show (turnB b).length = 28 from tb_len b 28] at this; exact this
    have ht := tsq_lt ⟨i, hi⟩
    dsimp only at ht
    have e2 : b[tsq i]? = some b[tsq i] := List.getElem?_eq_getElem (by lia)
    rw [turnB_get hi, List.getD_eq_getElem?_getD, e2, Option.getD_some, Option.some.injEq] at e
    have o := H.only _ _ e2
    have c := H.cell _ (List.getElem_mem (show tsq i < b.length by lia))
    have ff := flip_flip c
    rw [e] at ff
    constructor
    · intro hx
      rw [hx] at ff
      have := o.2 (by rw [← ff]; rfl)
      rw [← ht.2, this]; rfl
    · intro hx
      rw [hx] at ff
      have := o.1 (by rw [← ff]; rfl)
      rw [← ht.2, this]; rfl
theorem chk_turn {b : List Int} (H : KingsAt b) {s : Nat} (hs : s < 2) : chk (turnB b) (1 - s) = chk b s := by
  rcases (by lia : s = 0 ∨ s = 1) with rfl | rfl
  · exact chk_turn0 H.len H.cell
  · have := chk_turn0 (b := turnB b) H.turn.len H.turn.cell
    rw [turnB_turnB H.len H.cell] at this
    exact this.symm
end Mine
namespace Mine
open PySem
theorem pre_post {F : FT} : ∀ (n : Nat) (b : ISs) {env env' : LE} {σ σ' : AH}, exSs initOf F (pre n b) env σ = some (.next, env', σ') → exSs initOf F b env σ = exSs initOf F (post n b) env' σ'
  | 0, .nil, env, env', σ, σ', h => by
    rw [pre, y_nil] at h; cases h; rfl
  | 0, .cons a r, env, env', σ, σ', h => by
    rw [pre, y_nil] at h; cases h; rfl
  | n + 1, .nil, env, env', σ, σ', h => by
    rw [pre, y_nil] at h; cases h; rfl
  | n + 1, .cons a r, env, env', σ, σ', h => by
    rw [pre, y_cons] at h
    rw [post, y_cons]
    cases e : exS initOf F a env σ with
    | none => rw [e] at h; cases h
    | some q =>
      obtain ⟨f, e1, s1⟩ := q
      rw [e] at h
      cases f with
      | next =>
        rw [k_seq_n] at h ⊢
        exact pre_post n r h
      | brk => cases h
      | cont => cases h
      | ret v => cases h
noncomputable def crn (j : Nat) : Nat := [6, 0, 27, 21].getD j 0
theorem crn_fin : ∀ j : Fin 4, crn j.val < 28 ∧ crn j.val ≠ 3 ∧ crn j.val ≠ 24 := by decide
structure BrdOk (b : List Int) (r : Nat) : Prop where
  kings : KingsAt b
  pawn : ∀ (i : Nat) (x : Int), b[i]? = some x → (x = 1 ∨ x = 9) → 7 ≤ i ∧ i < 21
  rook : ∀ j, j < 4 → r.testBit j = true → b[crn j]? = some (((j / 2 : Nat) : Int) * 8 + 4)
theorem BrdOk.put {b : List Int} {r : Nat} (H : BrdOk b r) {sd k s : Nat} (hsd : sd < 2) (hk : 1 ≤ k ∧ k ≤ 5) (hs : s < 28) (h0 : b[s]? = some 0) (hp : k = 1 → 7 ≤ s ∧ s < 21) : BrdOk (b.set s ((sd : Int) * 8 + (k : Int))) r := by
  have hl := H.kings.len
  have get : ∀ (i : Nat) (x : Int), (b.set s ((sd : Int) * 8 + (k : Int)))[i]? = some x → (i = s ∧ x = (sd : Int) * 8 + (k : Int)) ∨ (i ≠ s ∧ b[i]? = some x) := fun i x e => by
    by_cases hi : s = i
    · subst hi
      rw [List.getElem?_set_self (by lia)] at e
      exact .inl ⟨rfl, (Option.some.inj e).symm⟩
    · rw [List.getElem?_set_ne hi] at e
      exact .inr ⟨fun z => hi z.symm, e⟩
  have keep : ∀ (i : Nat) (x : Int), x ≠ 0 → b[i]? = some x → (b.set s ((sd : Int) * 8 + (k : Int)))[i]? = some x := fun i x hx e => by
    have : s ≠ i := fun z => by subst z; rw [h0] at e; exact hx (Option.some.inj e).symm
    rw [List.getElem?_set_ne this]; exact e
  refine ⟨⟨by rw [List.length_set]; exact hl, keep _ _ (by decide) H.kings.k0, keep _ _ (by decide) H.kings.k1, ?_, ?_⟩, ?_, ?_⟩
  · intro i x e
    rcases get i x e with ⟨_, hx⟩ | ⟨_, e'⟩
    · constructor <;> intro h6 <;> lia
    · exact H.kings.only i x e'
  · intro x hx
    obtain ⟨i, e⟩ := List.getElem?_of_mem hx
    rcases get i x e with ⟨_, hx⟩ | ⟨_, e'⟩
    · exact .inr ⟨sd, k, hsd, hk.1, by lia, hx⟩
    · exact H.kings.cell x (List.mem_of_getElem? e')
  · intro i x e hx
    rcases get i x e with ⟨rfl, hx'⟩ | ⟨_, e'⟩
    · exact hp (by lia)
    · exact H.pawn i x e' hx
  · intro j hj hb
    exact keep _ _ (by lia) (H.rook j hj hb)
structure LB (σ : AH) (xs : List Int) (P : Pz) : Prop where
  pos : PosAt σ 52 P
  geo : Geo σ
  press : ∃ n, PressAt σ xs n
theorem PosAt.setLow {σ : AH} {p : Nat} {P : Pz} (H : PosAt σ p P) {j : Nat} (hj : j < 52) (x : AO) : PosAt (σ.set j x) p P := by
  have h := H.lo
  refine ⟨?_, ?_, ?_, ?_, ?_, H.len, h⟩ <;> rw [List.getElem?_set_ne (by lia)]
  · exact H.obj
  · exact H.board
  · exact H.kinds
  · exact H.sides
  · exact H.hist
theorem draw_ok (d : Nat) {σ : AH} {xs : List Int} {P : Pz} (H : LB σ xs P) {m : Nat} (hm : 0 < m) : ∃ v : Nat, v < m ∧ ∃ σ', runF initOf tbl (d + 1) 59 [.obj 1, .int m] σ = some (.int v, σ') ∧ LB σ' xs P := by
  obtain ⟨n, hn⟩ := H.press
  obtain ⟨v, v1, v2, v3⟩ := law_type_ok d hn hm
  refine ⟨v, v1, _, v2, H.pos.setLow (by lia) _, fun i hi => ?_, _, v3⟩
  rw [List.getElem?_set_ne (by lia)]; exact H.geo i hi
theorem lb_put (d : Nat) {σ : AH} {xs : List Int} {P : Pz} (H : LB σ xs P) {sd k s : Nat} (hsd : sd < 2) (hk : 1 ≤ k ∧ k ≤ 6) (hs : s < 28) (h0 : P.b[s]? = some 0) :
    ∃ key σ', runF initOf tbl (d + 2) 25 [.obj 52, .int ((sd : Int) * 8 + k), .int s] σ = some (.none, σ') ∧ LB σ' xs { P with b := P.b.set s ((sd : Int) * 8 + k), key := key } := by
  obtain ⟨key, σ', r1, r2, r3, r4⟩ := put_piece_ok d H.geo H.pos hsd hk hs h0
  obtain ⟨n, hn⟩ := H.press
  refine ⟨key, σ', r1, r2, fun i hi => ?_, n, ?_, ?_, hn.len⟩
  · rw [r4 _ (.inl (by lia))]; exact H.geo i hi
  · rw [r4 _ (.inl (by lia))]; exact hn.row
  · rw [r4 _ (.inl (by lia))]; exact hn.at'
theorem lb_set {σ : AH} {xs : List Int} {P Q : Pz} (H : LB σ xs P) (hb : Q.b = P.b) : LB (σ.set 52 (.inst 2 (posFs 52 Q))) xs Q := by
  obtain ⟨n, hn⟩ := H.press
  exact ⟨H.pos.setObj hb, H.geo.set (Nat.le_refl _) _, n, by rw [List.getElem?_set_ne (by decide)]; exact hn.row, by rw [List.getElem?_set_ne (by decide)]; exact hn.at', hn.len⟩
theorem occ_test {b : List Int} (hb : ∀ x ∈ b, CellOk x) {v : Nat} {x : Int} (e : b[v]? = some x) : (occN b).testBit v = !decide (x = 0) := by
  unfold occN Sb
  rw [Nat.testBit_or, bits_test, bits_test, e]
  simp only [Option.map_some, Option.getD_some]
  rcases hb x (List.mem_of_getElem? e) with rfl | ⟨sd, k, h1, h2, h3, rfl⟩
  · rfl
  · rw [isS_piece _ _ _ h1 ⟨h2, h3⟩, isS_piece _ _ _ h1 ⟨h2, h3⟩, decide_eq_false (show ¬ ((sd : Int) * 8 + k = 0) by lia)]
    rcases (by lia : sd = 0 ∨ sd = 1) with rfl | rfl <;> rfl
theorem fdiv_pow (n v : Nat) : ((n : Int)).fdiv ((2 : Int) ^ v) = ((n / 2 ^ v : Nat) : Int) := by
  rw [pow_c, Int.fdiv_eq_ediv_of_nonneg _ (Int.natCast_nonneg _)]
  exact (Int.natCast_ediv _ _).symm
theorem bit1 (n v : Nat) : Builtin.bitAnd (((n : Int)).fdiv ((2 : Int) ^ v)) 1 = (((n.testBit v).toNat : Nat) : Int) := by
  rw [fdiv_pow, show (1 : Int) = ((1 : Nat) : Int) from rfl, and_nn]
  congr 1
  rw [Nat.and_one_is_mod, Nat.testBit_eq_decide_div_mod_eq]
  rcases Nat.mod_two_eq_zero_or_one (n / 2 ^ v) with h | h <;> rw [h] <;> rfl
theorem occupied_ok (d : Nat) {σ : AH} {p : Nat} {P : Pz} (H : PosAt σ p P) : runF initOf tbl (d + 1) 26 [.obj p] σ = some (.int ((occN P.b : Nat) : Int), σ) := by
  have h1 := H.obj
  unfold posFs at h1
  have p22 := attr_i (a := 22) σ h1 rfl
  have s0' : subV (.obj (p + 5)) (.int 0) σ = some (.int ((Sb P.b 0 : Nat) : Int)) := side_at H (s := 0) (by lia)
  have s1' : subV (.obj (p + 5)) (.int 1) σ = some (.int ((Sb P.b 1 : Nat) : Int)) := side_at H (s := 1) (by lia)
  have u : Sb P.b 0 ||| Sb P.b 1 = occN P.b := rfl
  refine run_ret' (fn := f_occupied) rfl rfl ?_
  show ∃ env', exSs _ _ f_occupied.body ([some (.obj p)]) σ = _
  generalize runF initOf tbl d = F at *
  simp only [y_nil, y_cons, k_seq_n, k_seq_r, k_seq_c, y_asg, k_asg_s, k_end_s, y_asgA, k_asgA_s, k_asgA2_s, y_unp, k_unp_s, k_unp2_s, k_unp3_s, y_unpA, k_unpA_s, k_unpA2_s, y_aug, k_aug_s, k_aug2_s, y_augA, k_augA_s, k_augA2_s, k_augA3_s, k_augA4_s, y_ife, k_ife_t, k_ife_f, y_for, y_forT, k_for_s, y_ret, k_ret_s, y_exp, k_exp_s, y_cont, y_try, k_var_s, z_cst, z_var, z_tab, z_bin, k_bin_s, k_bin2_s, z_neg, k_neg_s, z_inv, k_inv_s, z_not, k_not_b, z_ife, k_ifE_t, k_ifE_f, k_bool_s, z_cmp, k_cmp_s, z_bop, k_bop_tt, k_bop_tf, k_bop_ft, k_bop_ff, z_attr, k_attr_s, z_sub, k_sub_s, k_sub2_s, z_slice, k_slice_s, k_slice2_s, k_slice3_s, z_rev, k_rev_s, z_list, z_tup, k_list0, k_list1, k_list6, k_tup2, k_tup3, k_tup4, z_call, k_call_s, z_new, k_new_s, k_new2_s, z_bi, k_bi_s, z_meth, k_meth_s, k_meth2_s, k_meth3_s, lst_str, z_comp, z_nil, z_cons, k_cons_s, k_cons2_s, k_tst_s, c_one, k_one_s, c_cons, k_cc_s, k_cc2_t, k_cc2_f, t_val, k_val_s, t_not, k_tnot_s, t_bop, k_tbop_tt, k_tbop_tf, k_tbop_ft, k_tbop_ff, t_cmp, k_tcmp_s, i_nil, b_add, b_sub, b_and, b_or, b_xor, u_add, u_sub, u_or, u_xor, m_eq, m_ne, m_lt, m_le, m_gt, m_ge, m_seq, m_sne, v_bool, v_int, Bool.not_true, Bool.not_false, Option.join_some, g0, g1, g2, g3, g4, g5, g6, g7, g8, g9, g10, g11, s0, s1, s2, s3, s4, s5, s6, s7, s8, s9, s10, s11, y_asgS, k_asgS_s, k_asgS2_s, k_asgS3_s, y_augS, k_augS_s, k_augS2_s, k_augS3_s, k_augS4_s, k_augS5_s, y_augD, k_augD_s, k_augD2_s, k_augD3_s, k_augD4_s, z_dsub, k_dsub_s, f_occupied, p22, s0', s1', or_nn, u]
  exact ⟨_, rfl⟩
end Mine
namespace Mine
open PySem
noncomputable def lb1 : ISs := .cons (.asg 6 (.call 59 (.cons (.var 0) (.cons (.cst (.int 4)) (.nil))))) (.cons (.ife (.cmp (.var 6) (.one .Gt (.cst (.int 0)))) (.cons (.exp (.call 25 (.cons (.var 4) (.cons (.call 0 (.cons (.bin .FloorDiv (.var 5) (.cst (.int 2))) (.cons (.cst (.int 4)) (.nil)))) (.cons (.sub
    (.tup (.cons (.cst (.int 6)) (.cons (.cst (.int 0)) (.cons (.cst (.int 27)) (.cons (.cst (.int 21)) (.nil)))))) (.var 5)) (.nil)))))) (.cons (.augA (.var 4) 16 .BitOr (.bin .LShift (.bi .int (.cons (.cmp (.var 6) (.one .Gt
    (.cst (.int 1)))) (.nil))) (.var 5))) (.nil))) (.nil)) (.nil))
structure L1 (σ : AH) (xs : List Int) (i : Nat) : Prop where
  h : ∃ P r, LB σ xs P ∧ P.rights = ((r : Nat) : Int) ∧ r < 2 ^ i ∧ BrdOk P.b r ∧ ∀ j, i ≤ j → j < 4 → P.b[crn j]? = some 0
theorem fd2 (i : Nat) (h : i < 1000) (σ : AH) : binV .FloorDiv (.int (i : Int)) (.int 2) σ = some (.int ((i / 2 : Nat) : Int), σ) := by
  have h1 : bitsOk (i : Int) = true := by unfold bitsOk; exact decide_eq_true (by lia)
  rw [b_fdiv σ ⟨by decide, h1, rfl⟩, Int.fdiv_eq_ediv_of_nonneg _ (by decide)]; rfl
theorem crn_ne : ∀ i j : Fin 4, i ≠ j → crn i.val ≠ crn j.val := by decide
theorem turn1 (d : Nat) {σ : AH} {xs : List Int} {i : Nat} (hi : i < 4) (H : L1 σ xs i) {x1 x2 x3 x6 x7 x8 x9 x10 x11 : Option V} :
    ∃ σ' y6, bd (runF initOf tbl (d + 2)) lb1 [some (.obj 1), x1, x2, x3, some (.obj 52), some (.int (i : Int)), x6, x7, x8, x9, x10, x11] σ = some (.next, [some (.obj 1), x1, x2, x3, some (.obj 52), some (.int (i : Int)), y6, x7, x8, x9, x10, x11], σ') ∧ L1 σ' xs (i + 1) := by
  obtain ⟨P, r, hL, hr, hr2, hB, hE⟩ := H.h
  obtain ⟨v, v1, σ1, dr, L1'⟩ := draw_ok (d + 1) hL (m := 4) (by lia)
  by_cases hv : v = 0
  · have dd : decide ((0 : Int) < (v : Int)) = false := decide_eq_false (by lia)
    refine ⟨σ1, some (.int (v : Int)), ?_, ⟨P, r, L1', hr, ?_, hB, fun j h1 h2 => hE j (by lia) h2⟩⟩
    · have dr' : runF initOf tbl (d + 2) 59 [.obj 1, .int 4] σ = some (.int v, σ1) := dr
      generalize runF initOf tbl (d + 2) = F at *
      simp only [y_nil, y_cons, k_seq_n, k_seq_r, k_seq_c, y_asg, k_asg_s, k_end_s, y_asgA, k_asgA_s, k_asgA2_s, y_unp, k_unp_s, k_unp2_s, k_unp3_s, y_unpA, k_unpA_s, k_unpA2_s, y_aug, k_aug_s, k_aug2_s, y_augA, k_augA_s, k_augA2_s, k_augA3_s, k_augA4_s, y_ife, k_ife_t, k_ife_f, y_for, y_forT, k_for_s, y_ret, k_ret_s, y_exp, k_exp_s, y_cont, y_try, k_var_s, z_cst, z_var, z_tab, z_bin, k_bin_s, k_bin2_s, z_neg, k_neg_s, z_inv, k_inv_s, z_not, k_not_b, z_ife, k_ifE_t, k_ifE_f, k_bool_s, z_cmp, k_cmp_s, z_bop, k_bop_tt, k_bop_tf, k_bop_ft, k_bop_ff, z_attr, k_attr_s, z_sub, k_sub_s, k_sub2_s, z_slice, k_slice_s, k_slice2_s, k_slice3_s, z_rev, k_rev_s, z_list, z_tup, k_list0, k_list1, k_list6, k_tup2, k_tup3, k_tup4, z_call, k_call_s, z_new, k_new_s, k_new2_s, z_bi, k_bi_s, z_meth, k_meth_s, k_meth2_s, k_meth3_s, lst_str, z_comp, z_nil, z_cons, k_cons_s, k_cons2_s, k_tst_s, c_one, k_one_s, c_cons, k_cc_s, k_cc2_t, k_cc2_f, t_val, k_val_s, t_not, k_tnot_s, t_bop, k_tbop_tt, k_tbop_tf, k_tbop_ft, k_tbop_ff, t_cmp, k_tcmp_s, i_nil, b_add, b_sub, b_and, b_or, b_xor, u_add, u_sub, u_or, u_xor, m_eq, m_ne, m_lt, m_le, m_gt, m_ge, m_seq, m_sne, v_bool, v_int, Bool.not_true, Bool.not_false, Option.join_some, g0, g1, g2, g3, g4, g5, g6, g7, g8, g9, g10, g11, s0, s1, s2, s3, s4, s5, s6, s7, s8, s9, s10, s11, bd, lb1, dr', dd]
    · rw [Nat.pow_succ]; lia
  · have dd : decide ((0 : Int) < (v : Int)) = true := decide_eq_true (by lia)
    have c := crn_fin ⟨i, hi⟩
    dsimp only at c
    obtain ⟨key, σ2, pt, L2⟩ := lb_put d L1' (sd := i / 2) (k := 4) (s := crn i) (by lia) (by lia) c.1 (hE i (Nat.le_refl _) hi)
    have mp := make_piece_ok (d + 1) ((i / 2 : Nat) : Int) 4 (by lia) σ1
    have sb : subV (.tup [.int 6, .int 0, .int 27, .int 21]) (.int (i : Int)) σ1 = some (.int ((crn i : Nat) : Int)) := sub_t σ1 (by
      rcases (by lia : i = 0 ∨ i = 1 ∨ i = 2 ∨ i = 3) with rfl | rfl | rfl | rfl <;> rfl) (by lia)
    have f2 := fd2 i (by lia) σ1
    have at16 : attrV (.obj 52) 16 σ2 = some (.int (r : Int)) := by rw [← hr]; exact attr_i σ2 L2.pos.obj rfl
    obtain ⟨t, ht⟩ : ∃ t : Nat, t = if 1 < v then 1 else 0 := ⟨_, rfl⟩
    have bt : biV .int [.bool (decide ((1 : Int) < (v : Int)))] σ2 = some (.int (t : Int), σ2) := by
      by_cases h1 : 1 < v
      · rw [ht, if_pos h1, decide_eq_true (show (1 : Int) < (v : Int) by lia)]; rfl
      · rw [ht, if_neg h1, decide_eq_false (show ¬ (1 : Int) < (v : Int) by lia)]; rfl
    have t1 : t ≤ 1 := by rw [ht]; split <;> lia
    have sh := b_shl σ2 (a := (t : Int)) (n := i) ⟨by lia, by unfold bitsOk; exact decide_eq_true (by lia)⟩
    rw [show (t : Int) * (2 : Int) ^ i = ((t * 2 ^ i : Nat) : Int) by rw [pow_c]; push_cast; rfl] at sh
    have sa := set_fld L2.pos 16 (.int ((r ||| t * 2 ^ i : Nat) : Int)) { P with b := P.b.set (crn i) (((i / 2 : Nat) : Int) * 8 + ((4 : Nat) : Int)), key := key, rights := ((r ||| t * 2 ^ i : Nat) : Int) } rfl
    refine ⟨σ2.set 52 (.inst 2 (posFs 52 { P with b := P.b.set (crn i) (((i / 2 : Nat) : Int) * 8 + ((4 : Nat) : Int)), key := key, rights := ((r ||| t * 2 ^ i : Nat) : Int) })), some (.int (v : Int)), ?_, ⟨_, r ||| t * 2 ^ i, lb_set L2 rfl, rfl, ?_, ?_, ?_⟩⟩
    · have dr' : runF initOf tbl (d + 2) 59 [.obj 1, .int 4] σ = some (.int v, σ1) := dr
      have pt' : runF initOf tbl (d + 2) 25 [.obj 52, .int (((i / 2 : Nat) : Int) * 8 + 4), .int ((crn i : Nat) : Int)] σ1 = some (.none, σ2) := pt
      generalize runF initOf tbl (d + 2) = F at *
      simp only [y_nil, y_cons, k_seq_n, k_seq_r, k_seq_c, y_asg, k_asg_s, k_end_s, y_asgA, k_asgA_s, k_asgA2_s, y_unp, k_unp_s, k_unp2_s, k_unp3_s, y_unpA, k_unpA_s, k_unpA2_s, y_aug, k_aug_s, k_aug2_s, y_augA, k_augA_s, k_augA2_s, k_augA3_s, k_augA4_s, y_ife, k_ife_t, k_ife_f, y_for, y_forT, k_for_s, y_ret, k_ret_s, y_exp, k_exp_s, y_cont, y_try, k_var_s, z_cst, z_var, z_tab, z_bin, k_bin_s, k_bin2_s, z_neg, k_neg_s, z_inv, k_inv_s, z_not, k_not_b, z_ife, k_ifE_t, k_ifE_f, k_bool_s, z_cmp, k_cmp_s, z_bop, k_bop_tt, k_bop_tf, k_bop_ft, k_bop_ff, z_attr, k_attr_s, z_sub, k_sub_s, k_sub2_s, z_slice, k_slice_s, k_slice2_s, k_slice3_s, z_rev, k_rev_s, z_list, z_tup, k_list0, k_list1, k_list6, k_tup2, k_tup3, k_tup4, z_call, k_call_s, z_new, k_new_s, k_new2_s, z_bi, k_bi_s, z_meth, k_meth_s, k_meth2_s, k_meth3_s, lst_str, z_comp, z_nil, z_cons, k_cons_s, k_cons2_s, k_tst_s, c_one, k_one_s, c_cons, k_cc_s, k_cc2_t, k_cc2_f, t_val, k_val_s, t_not, k_tnot_s, t_bop, k_tbop_tt, k_tbop_tf, k_tbop_ft, k_tbop_ff, t_cmp, k_tcmp_s, i_nil, b_add, b_sub, b_and, b_or, b_xor, u_add, u_sub, u_or, u_xor, m_eq, m_ne, m_lt, m_le, m_gt, m_ge, m_seq, m_sne, v_bool, v_int, Bool.not_true, Bool.not_false, Option.join_some, g0, g1, g2, g3, g4, g5, g6, g7, g8, g9, g10, g11, s0, s1, s2, s3, s4, s5, s6, s7, s8, s9, s10, s11, bd, lb1, dr', dd, f2, mp, sb, pt', at16, bt, sh, or_nn, sa]
    · refine Nat.or_lt_two_pow (Nat.lt_of_lt_of_le hr2 (Nat.pow_le_pow_right (by lia) (by lia))) ?_
      rcases (by lia : t = 0 ∨ t = 1) with h | h
      · rw [h, Nat.zero_mul]; exact Nat.two_pow_pos _
      · rw [h, Nat.one_mul]; exact Nat.pow_lt_pow_right (by lia) (by lia)
    · have B2 := hB.put (sd := i / 2) (k := 4) (s := crn i) (by lia) (by lia) c.1 (hE i (Nat.le_refl _) hi) (by lia)
      refine ⟨B2.kings, B2.pawn, fun j hj hb => ?_⟩
      rw [Nat.testBit_or, Bool.or_eq_true] at hb
      rcases hb with hb | hb
      · exact B2.rook j hj hb
      · have : j = i := by
          rcases (by lia : t = 0 ∨ t = 1) with h | h
          · rw [h, Nat.zero_mul] at hb; simp at hb
          · rw [h, Nat.one_mul, Nat.testBit_two_pow, decide_eq_true_eq] at hb; exact hb.symm
        subst this
        show (P.b.set (crn j) _)[crn j]? = _
        rw [List.getElem?_set_self (by rw [hB.kings.len]; exact c.1)]; rfl
    · intro j h1 h2
      show (P.b.set (crn i) _)[crn j]? = _
      rw [List.getElem?_set_ne (crn_ne ⟨i, hi⟩ ⟨j, h2⟩ (fun z => by injection z; lia))]
      exact hE j (by lia) h2
noncomputable def lb2c : IS := .ife (.cmp (.bin .BitAnd (.bin
    .RShift (.call 26 (.cons (.var 4) (.nil))) (.var 1)) (.cst (.int 1))) (.one .Eq (.cst (.int 0)))) (.cons (.exp (.call 25 (.cons (.var 4) (.cons (.call 0 (.cons (.var 9) (.cons (.var 8) (.nil)))) (.cons (.var 1) (.nil))))))
    (.nil)) (.nil)
noncomputable def lb2b : IS := .ife (.bop true (.cmp (.var 8) (.one .Eq (.cst (.int 1)))) (.not (.cmp (.cst (.int 7)) (.cons .LtE (.var 1) (.one .Lt (.cst (.int 21))))))) (.cons (.asg 8 (.cst (.int 2))) (.nil)) (.nil)
noncomputable def lb2 : ISs := .cons (.unp [1, 8, 9] (.tup (.cons (.call 59 (.cons (.var
    0) (.cons (.cst (.int 28)) (.nil)))) (.cons (.bin .Add (.cst (.int 1)) (.call 59 (.cons (.var 0) (.cons (.cst (.int 5)) (.nil))))) (.cons (.call 59 (.cons (.var 0) (.cons (.cst (.int 2)) (.nil)))) (.nil)))))) (.cons lb2b (.cons lb2c (.nil)))
structure L2 (σ : AH) (xs : List Int) (r : Nat) : Prop where
  h : ∃ P, LB σ xs P ∧ P.rights = ((r : Nat) : Int) ∧ BrdOk P.b r
theorem turn2c (d : Nat) {σ : AH} {xs : List Int} {r v1 k v3 : Nat} (H : L2 σ xs r) (h1 : v1 < 28) (hk : 1 ≤ k ∧ k ≤ 5) (h3 : v3 < 2) (hp : k = 1 → 7 ≤ v1 ∧ v1 < 21) {x2 x3 x5 x6 x7 x10 x11 : Option V} :
    ∃ σ', exS initOf (runF initOf tbl (d + 2)) lb2c [some (.obj 1), some (.int (v1 : Int)), x2, x3, some (.obj 52), x5, x6, x7, some (.int (k : Int)), some (.int (v3 : Int)), x10, x11] σ
      = some (.next, [some (.obj 1), some (.int (v1 : Int)), x2, x3, some (.obj 52), x5, x6, x7, some (.int (k : Int)), some (.int (v3 : Int)), x10, x11], σ') ∧ L2 σ' xs r := by
  obtain ⟨P, hL, hr, hB⟩ := H.h
  have hl := hB.kings.len
  have e : P.b[v1]? = some P.b[v1] := List.getElem?_eq_getElem (by lia)
  have oc := occupied_ok (d + 1) hL.pos
  have sr := b_shr σ ((occN P.b : Nat) : Int) v1
  have b1 := bit1 (occN P.b) v1
  rw [occ_test hB.kings.cell e] at b1
  by_cases h0 : P.b[v1] = 0
  · rw [h0] at e
    obtain ⟨key, σ2, pt, LL⟩ := lb_put d hL h3 (k := k) (by lia) h1 e
    have mp := make_piece_ok (d + 1) (v3 : Int) (k : Int) (by lia) σ
    have dd : decide ((((!decide (P.b[v1] = 0)).toNat : Nat) : Int) = 0) = true := by rw [decide_eq_true h0]; rfl
    refine ⟨σ2, ?_, ⟨_, LL, hr, hB.put h3 hk h1 e hp⟩⟩
    generalize runF initOf tbl (d + 2) = F at *
    simp only [y_nil, y_cons, k_seq_n, k_seq_r, k_seq_c, y_asg, k_asg_s, k_end_s, y_asgA, k_asgA_s, k_asgA2_s, y_unp, k_unp_s, k_unp2_s, k_unp3_s, y_unpA, k_unpA_s, k_unpA2_s, y_aug, k_aug_s, k_aug2_s, y_augA, k_augA_s, k_augA2_s, k_augA3_s, k_augA4_s, y_ife, k_ife_t, k_ife_f, y_for, y_forT, k_for_s, y_ret, k_ret_s, y_exp, k_exp_s, y_cont, y_try, k_var_s, z_cst, z_var, z_tab, z_bin, k_bin_s, k_bin2_s, z_neg, k_neg_s, z_inv, k_inv_s, z_not, k_not_b, z_ife, k_ifE_t, k_ifE_f, k_bool_s, z_cmp, k_cmp_s, z_bop, k_bop_tt, k_bop_tf, k_bop_ft, k_bop_ff, z_attr, k_attr_s, z_sub, k_sub_s, k_sub2_s, z_slice, k_slice_s, k_slice2_s, k_slice3_s, z_rev, k_rev_s, z_list, z_tup, k_list0, k_list1, k_list6, k_tup2, k_tup3, k_tup4, z_call, k_call_s, z_new, k_new_s, k_new2_s, z_bi, k_bi_s, z_meth, k_meth_s, k_meth2_s, k_meth3_s, lst_str, z_comp, z_nil, z_cons, k_cons_s, k_cons2_s, k_tst_s, c_one, k_one_s, c_cons, k_cc_s, k_cc2_t, k_cc2_f, t_val, k_val_s, t_not, k_tnot_s, t_bop, k_tbop_tt, k_tbop_tf, k_tbop_ft, k_tbop_ff, t_cmp, k_tcmp_s, i_nil, b_add, b_sub, b_and, b_or, b_xor, u_add, u_sub, u_or, u_xor, m_eq, m_ne, m_lt, m_le, m_gt, m_ge, m_seq, m_sne, v_bool, v_int, Bool.not_true, Bool.not_false, Option.join_some, g0, g1, g2, g3, g4, g5, g6, g7, g8, g9, g10, g11, s0, s1, s2, s3, s4, s5, s6, s7, s8, s9, s10, s11, lb2c, oc, sr, b1, dd, mp, pt]
  · have dd : decide ((((!decide (P.b[v1] = 0)).toNat : Nat) : Int) = 0) = false := by rw [decide_eq_false h0]; rfl
    refine ⟨σ, ?_, H⟩
    generalize runF initOf tbl (d + 2) = F at *
    simp only [y_nil, y_cons, k_seq_n, k_seq_r, k_seq_c, y_asg, k_asg_s, k_end_s, y_asgA, k_asgA_s, k_asgA2_s, y_unp, k_unp_s, k_unp2_s, k_unp3_s, y_unpA, k_unpA_s, k_unpA2_s, y_aug, k_aug_s, k_aug2_s, y_augA, k_augA_s, k_augA2_s, k_augA3_s, k_augA4_s, y_ife, k_ife_t, k_ife_f, y_for, y_forT, k_for_s, y_ret, k_ret_s, y_exp, k_exp_s, y_cont, y_try, k_var_s, z_cst, z_var, z_tab, z_bin, k_bin_s, k_bin2_s, z_neg, k_neg_s, z_inv, k_inv_s, z_not, k_not_b, z_ife, k_ifE_t, k_ifE_f, k_bool_s, z_cmp, k_cmp_s, z_bop, k_bop_tt, k_bop_tf, k_bop_ft, k_bop_ff, z_attr, k_attr_s, z_sub, k_sub_s, k_sub2_s, z_slice, k_slice_s, k_slice2_s, k_slice3_s, z_rev, k_rev_s, z_list, z_tup, k_list0, k_list1, k_list6, k_tup2, k_tup3, k_tup4, z_call, k_call_s, z_new, k_new_s, k_new2_s, z_bi, k_bi_s, z_meth, k_meth_s, k_meth2_s, k_meth3_s, lst_str, z_comp, z_nil, z_cons, k_cons_s, k_cons2_s, k_tst_s, c_one, k_one_s, c_cons, k_cc_s, k_cc2_t, k_cc2_f, t_val, k_val_s, t_not, k_tnot_s, t_bop, k_tbop_tt, k_tbop_tf, k_tbop_ft, k_tbop_ff, t_cmp, k_tcmp_s, i_nil, b_add, b_sub, b_and, b_or, b_xor, u_add, u_sub, u_or, u_xor, m_eq, m_ne, m_lt, m_le, m_gt, m_ge, m_seq, m_sne, v_bool, v_int, Bool.not_true, Bool.not_false, Option.join_some, g0, g1, g2, g3, g4, g5, g6, g7, g8, g9, g10, g11, s0, s1, s2, s3, s4, s5, s6, s7, s8, s9, s10, s11, lb2c, oc, sr, b1, dd]
theorem turn2b (F : FT) {σ : AH} {v1 v2 : Nat} (h2 : v2 < 5) {x0 x2 x3 x4 x5 x6 x7 x9 x10 x11 : Option V} : ∃ k : Nat, (1 ≤ k ∧ k ≤ 5) ∧ (k = 1 → 7 ≤ v1 ∧ v1 < 21) ∧
    exS initOf F lb2b [x0, some (.int (v1 : Int)), x2, x3, x4, x5, x6, x7, some (.int ((1 + v2 : Nat) : Int)), x9, x10, x11] σ = some (.next, [x0, some (.int (v1 : Int)), x2, x3, x4, x5, x6, x7, some (.int (k : Int)), x9, x10, x11], σ) := by
  by_cases hk : v2 = 0
  · subst hk
    have c1 : decide (((1 + 0 : Nat) : Int) = 1) = true := rfl
    by_cases hr1 : 7 ≤ v1
    · have c2 : decide ((7 : Int) ≤ (v1 : Int)) = true := decide_eq_true (by lia)
      by_cases hr2 : v1 < 21
      · have c3 : decide ((v1 : Int) < 21) = true := decide_eq_true (by lia)
        refine ⟨1 + 0, by decide, fun _ => ⟨hr1, hr2⟩, ?_⟩
        simp only [y_nil, y_cons, k_seq_n, k_seq_r, k_seq_c, y_asg, k_asg_s, k_end_s, y_asgA, k_asgA_s, k_asgA2_s, y_unp, k_unp_s, k_unp2_s, k_unp3_s, y_unpA, k_unpA_s, k_unpA2_s, y_aug, k_aug_s, k_aug2_s, y_augA, k_augA_s, k_augA2_s, k_augA3_s, k_augA4_s, y_ife, k_ife_t, k_ife_f, y_for, y_forT, k_for_s, y_ret, k_ret_s, y_exp, k_exp_s, y_cont, y_try, k_var_s, z_cst, z_var, z_tab, z_bin, k_bin_s, k_bin2_s, z_neg, k_neg_s, z_inv, k_inv_s, z_not, k_not_b, z_ife, k_ifE_t, k_ifE_f, k_bool_s, z_cmp, k_cmp_s, z_bop, k_bop_tt, k_bop_tf, k_bop_ft, k_bop_ff, z_attr, k_attr_s, z_sub, k_sub_s, k_sub2_s, z_slice, k_slice_s, k_slice2_s, k_slice3_s, z_rev, k_rev_s, z_list, z_tup, k_list0, k_list1, k_list6, k_tup2, k_tup3, k_tup4, z_call, k_call_s, z_new, k_new_s, k_new2_s, z_bi, k_bi_s, z_meth, k_meth_s, k_meth2_s, k_meth3_s, lst_str, z_comp, z_nil, z_cons, k_cons_s, k_cons2_s, k_tst_s, c_one, k_one_s, c_cons, k_cc_s, k_cc2_t, k_cc2_f, t_val, k_val_s, t_not, k_tnot_s, t_bop, k_tbop_tt, k_tbop_tf, k_tbop_ft, k_tbop_ff, t_cmp, k_tcmp_s, i_nil, b_add, b_sub, b_and, b_or, b_xor, u_add, u_sub, u_or, u_xor, m_eq, m_ne, m_lt, m_le, m_gt, m_ge, m_seq, m_sne, v_bool, v_int, Bool.not_true, Bool.not_false, Option.join_some, g0, g1, g2, g3, g4, g5, g6, g7, g8, g9, g10, g11, s0, s1, s2, s3, s4, s5, s6, s7, s8, s9, s10, s11, lb2b, c1, c2, c3]
      · have c3 : decide ((v1 : Int) < 21) = false := decide_eq_false (by lia)
        refine ⟨2, by decide, fun h => absurd h (by decide), ?_⟩
        simp only [y_nil, y_cons, k_seq_n, k_seq_r, k_seq_c, y_asg, k_asg_s, k_end_s, y_asgA, k_asgA_s, k_asgA2_s, y_unp, k_unp_s, k_unp2_s, k_unp3_s, y_unpA, k_unpA_s, k_unpA2_s, y_aug, k_aug_s, k_aug2_s, y_augA, k_augA_s, k_augA2_s, k_augA3_s, k_augA4_s, y_ife, k_ife_t, k_ife_f, y_for, y_forT, k_for_s, y_ret, k_ret_s, y_exp, k_exp_s, y_cont, y_try, k_var_s, z_cst, z_var, z_tab, z_bin, k_bin_s, k_bin2_s, z_neg, k_neg_s, z_inv, k_inv_s, z_not, k_not_b, z_ife, k_ifE_t, k_ifE_f, k_bool_s, z_cmp, k_cmp_s, z_bop, k_bop_tt, k_bop_tf, k_bop_ft, k_bop_ff, z_attr, k_attr_s, z_sub, k_sub_s, k_sub2_s, z_slice, k_slice_s, k_slice2_s, k_slice3_s, z_rev, k_rev_s, z_list, z_tup, k_list0, k_list1, k_list6, k_tup2, k_tup3, k_tup4, z_call, k_call_s, z_new, k_new_s, k_new2_s, z_bi, k_bi_s, z_meth, k_meth_s, k_meth2_s, k_meth3_s, lst_str, z_comp, z_nil, z_cons, k_cons_s, k_cons2_s, k_tst_s, c_one, k_one_s, c_cons, k_cc_s, k_cc2_t, k_cc2_f, t_val, k_val_s, t_not, k_tnot_s, t_bop, k_tbop_tt, k_tbop_tf, k_tbop_ft, k_tbop_ff, t_cmp, k_tcmp_s, i_nil, b_add, b_sub, b_and, b_or, b_xor, u_add, u_sub, u_or, u_xor, m_eq, m_ne, m_lt, m_le, m_gt, m_ge, m_seq, m_sne, v_bool, v_int, Bool.not_true, Bool.not_false, Option.join_some, g0, g1, g2, g3, g4, g5, g6, g7, g8, g9, g10, g11, s0, s1, s2, s3, s4, s5, s6, s7, s8, s9, s10, s11, lb2b, c1, c2, c3]
        rfl
    · have c2 : decide ((7 : Int) ≤ (v1 : Int)) = false := decide_eq_false (by lia)
      refine ⟨2, by decide, fun h => absurd h (by decide), ?_⟩
      simp only [y_nil, y_cons, k_seq_n, k_seq_r, k_seq_c, y_asg, k_asg_s, k_end_s, y_asgA, k_asgA_s, k_asgA2_s, y_unp, k_unp_s, k_unp2_s, k_unp3_s, y_unpA, k_unpA_s, k_unpA2_s, y_aug, k_aug_s, k_aug2_s, y_augA, k_augA_s, k_augA2_s, k_augA3_s, k_augA4_s, y_ife, k_ife_t, k_ife_f, y_for, y_forT, k_for_s, y_ret, k_ret_s, y_exp, k_exp_s, y_cont, y_try, k_var_s, z_cst, z_var, z_tab, z_bin, k_bin_s, k_bin2_s, z_neg, k_neg_s, z_inv, k_inv_s, z_not, k_not_b, z_ife, k_ifE_t, k_ifE_f, k_bool_s, z_cmp, k_cmp_s, z_bop, k_bop_tt, k_bop_tf, k_bop_ft, k_bop_ff, z_attr, k_attr_s, z_sub, k_sub_s, k_sub2_s, z_slice, k_slice_s, k_slice2_s, k_slice3_s, z_rev, k_rev_s, z_list, z_tup, k_list0, k_list1, k_list6, k_tup2, k_tup3, k_tup4, z_call, k_call_s, z_new, k_new_s, k_new2_s, z_bi, k_bi_s, z_meth, k_meth_s, k_meth2_s, k_meth3_s, lst_str, z_comp, z_nil, z_cons, k_cons_s, k_cons2_s, k_tst_s, c_one, k_one_s, c_cons, k_cc_s, k_cc2_t, k_cc2_f, t_val, k_val_s, t_not, k_tnot_s, t_bop, k_tbop_tt, k_tbop_tf, k_tbop_ft, k_tbop_ff, t_cmp, k_tcmp_s, i_nil, b_add, b_sub, b_and, b_or, b_xor, u_add, u_sub, u_or, u_xor, m_eq, m_ne, m_lt, m_le, m_gt, m_ge, m_seq, m_sne, v_bool, v_int, Bool.not_true, Bool.not_false, Option.join_some, g0, g1, g2, g3, g4, g5, g6, g7, g8, g9, g10, g11, s0, s1, s2, s3, s4, s5, s6, s7, s8, s9, s10, s11, lb2b, c1, c2]
      rfl
  · have c1 : decide (((1 + v2 : Nat) : Int) = 1) = false := decide_eq_false (by lia)
    refine ⟨1 + v2, by lia, fun h => absurd h (by lia), ?_⟩
    simp only [y_nil, y_cons, k_seq_n, k_seq_r, k_seq_c, y_asg, k_asg_s, k_end_s, y_asgA, k_asgA_s, k_asgA2_s, y_unp, k_unp_s, k_unp2_s, k_unp3_s, y_unpA, k_unpA_s, k_unpA2_s, y_aug, k_aug_s, k_aug2_s, y_augA, k_augA_s, k_augA2_s, k_augA3_s, k_augA4_s, y_ife, k_ife_t, k_ife_f, y_for, y_forT, k_for_s, y_ret, k_ret_s, y_exp, k_exp_s, y_cont, y_try, k_var_s, z_cst, z_var, z_tab, z_bin, k_bin_s, k_bin2_s, z_neg, k_neg_s, z_inv, k_inv_s, z_not, k_not_b, z_ife, k_ifE_t, k_ifE_f, k_bool_s, z_cmp, k_cmp_s, z_bop, k_bop_tt, k_bop_tf, k_bop_ft, k_bop_ff, z_attr, k_attr_s, z_sub, k_sub_s, k_sub2_s, z_slice, k_slice_s, k_slice2_s, k_slice3_s, z_rev, k_rev_s, z_list, z_tup, k_list0, k_list1, k_list6, k_tup2, k_tup3, k_tup4, z_call, k_call_s, z_new, k_new_s, k_new2_s, z_bi, k_bi_s, z_meth, k_meth_s, k_meth2_s, k_meth3_s, lst_str, z_comp, z_nil, z_cons, k_cons_s, k_cons2_s, k_tst_s, c_one, k_one_s, c_cons, k_cc_s, k_cc2_t, k_cc2_f, t_val, k_val_s, t_not, k_tnot_s, t_bop, k_tbop_tt, k_tbop_tf, k_tbop_ft, k_tbop_ff, t_cmp, k_tcmp_s, i_nil, b_add, b_sub, b_and, b_or, b_xor, u_add, u_sub, u_or, u_xor, m_eq, m_ne, m_lt, m_le, m_gt, m_ge, m_seq, m_sne, v_bool, v_int, Bool.not_true, Bool.not_false, Option.join_some, g0, g1, g2, g3, g4, g5, g6, g7, g8, g9, g10, g11, s0, s1, s2, s3, s4, s5, s6, s7, s8, s9, s10, s11, lb2b, c1]
theorem turn2 (d : Nat) {σ : AH} {xs : List Int} {r : Nat} (H : L2 σ xs r) {x1 x2 x3 x5 x6 x7 x8 x9 x10 x11 : Option V} :
    ∃ σ' y1 y8 y9, bd (runF initOf tbl (d + 2)) lb2 [some (.obj 1), x1, x2, x3, some (.obj 52), x5, x6, x7, x8, x9, x10, x11] σ = some (.next, [some (.obj 1), y1, x2, x3, some (.obj 52), x5, x6, x7, y8, y9, x10, x11], σ') ∧ L2 σ' xs r := by
  obtain ⟨P, hL, hr, hB⟩ := H.h
  obtain ⟨v1, b1, σ1, d1, L1⟩ := draw_ok (d + 1) hL (m := 28) (by lia)
  obtain ⟨v2, b2, σ2, d2, L2'⟩ := draw_ok (d + 1) L1 (m := 5) (by lia)
  obtain ⟨v3, b3, σ3, d3, L3⟩ := draw_ok (d + 1) L2' (m := 2) (by lia)
  have H3 : L2 σ3 xs r := ⟨P, L3, hr, hB⟩
  have d1' : runF initOf tbl (d + 2) 59 [.obj 1, .int 28] σ = some (.int v1, σ1) := d1
  have d2' : runF initOf tbl (d + 2) 59 [.obj 1, .int 5] σ1 = some (.int v2, σ2) := d2
  have d3' : runF initOf tbl (d + 2) 59 [.obj 1, .int 2] σ2 = some (.int v3, σ3) := d3
  have ci : (1 : Int) + (v2 : Int) = ((1 + v2 : Nat) : Int) := by lia
  have ba : ∀ a b c : V, unpV (.tup [a, b, c]) σ3 = some [a, b, c] := fun _ _ _ => rfl
  have bb : ∀ a b c : V, bindAll [1, 8, 9] [a, b, c] [some (.obj 1), x1, x2, x3, some (.obj 52), x5, x6, x7, x8, x9, x10, x11] = some [some (.obj 1), some a, x2, x3, some (.obj 52), x5, x6, x7, some b, some c, x10, x11] := fun _ _ _ => rfl
  obtain ⟨k, hk, hp, e2⟩ := turn2b (runF initOf tbl (d + 2)) (σ := σ3) (v1 := v1) (x0 := some (.obj 1)) (x2 := x2) (x3 := x3) (x4 := some (.obj 52)) (x5 := x5) (x6 := x6) (x7 := x7) (x9 := some (.int (v3 : Int))) (x10 := x10) (x11 := x11) b2
  obtain ⟨σ', e, H'⟩ := turn2c d H3 (k := k) b1 hk b3 hp (x2 := x2) (x3 := x3) (x5 := x5) (x6 := x6) (x7 := x7) (x10 := x10) (x11 := x11)
  refine ⟨σ', some (.int (v1 : Int)), some (.int (k : Int)), some (.int (v3 : Int)), ?_, H'⟩
  generalize runF initOf tbl (d + 2) = F at *
  simp only [y_nil, y_cons, k_seq_n, k_seq_r, k_seq_c, y_asg, k_asg_s, k_end_s, y_asgA, k_asgA_s, k_asgA2_s, y_unp, k_unp_s, k_unp2_s, k_unp3_s, y_unpA, k_unpA_s, k_unpA2_s, y_aug, k_aug_s, k_aug2_s, y_augA, k_augA_s, k_augA2_s, k_augA3_s, k_augA4_s, y_ife, k_ife_t, k_ife_f, y_for, y_forT, k_for_s, y_ret, k_ret_s, y_exp, k_exp_s, y_cont, y_try, k_var_s, z_cst, z_var, z_tab, z_bin, k_bin_s, k_bin2_s, z_neg, k_neg_s, z_inv, k_inv_s, z_not, k_not_b, z_ife, k_ifE_t, k_ifE_f, k_bool_s, z_cmp, k_cmp_s, z_bop, k_bop_tt, k_bop_tf, k_bop_ft, k_bop_ff, z_attr, k_attr_s, z_sub, k_sub_s, k_sub2_s, z_slice, k_slice_s, k_slice2_s, k_slice3_s, z_rev, k_rev_s, z_list, z_tup, k_list0, k_list1, k_list6, k_tup2, k_tup3, k_tup4, z_call, k_call_s, z_new, k_new_s, k_new2_s, z_bi, k_bi_s, z_meth, k_meth_s, k_meth2_s, k_meth3_s, lst_str, z_comp, z_nil, z_cons, k_cons_s, k_cons2_s, k_tst_s, c_one, k_one_s, c_cons, k_cc_s, k_cc2_t, k_cc2_f, t_val, k_val_s, t_not, k_tnot_s, t_bop, k_tbop_tt, k_tbop_tf, k_tbop_ft, k_tbop_ff, t_cmp, k_tcmp_s, i_nil, b_add, b_sub, b_and, b_or, b_xor, u_add, u_sub, u_or, u_xor, m_eq, m_ne, m_lt, m_le, m_gt, m_ge, m_seq, m_sne, v_bool, v_int, Bool.not_true, Bool.not_false, Option.join_some, g0, g1, g2, g3, g4, g5, g6, g7, g8, g9, g10, g11, s0, s1, s2, s3, s4, s5, s6, s7, s8, s9, s10, s11, bd, lb2, d1', d2', d3', ci, ba, bb, e2, e]
end Mine
namespace Mine
open PySem
noncomputable def brd0 : List Int := [0, 0, 0, 6, 0, 0, 0, 0, 0, 0, 0, 0, 0, 0, 0, 0, 0, 0, 0, 0, 0, 0, 0, 0, 14, 0, 0, 0]
noncomputable def pz0 : Pz := ⟨brd0, 0, 0, 0, 1, 19569544818241⟩
theorem kinds0 : kindsOf brd0 = [0, 0, 0, 0, 0, 0, 16777224] ∧ sidesOf brd0 = [8, 16777216] := by decide +kernel
theorem pos0 (a b : AO) : PosAt (a :: b :: base) 52 pz0 := by
  refine ⟨rfl, rfl, ?_, ?_, rfl, rfl, Nat.le_refl _⟩
  · rw [show pz0.b = brd0 from rfl, kinds0.1]; rfl
  · rw [show pz0.b = brd0 from rfl, kinds0.2]; rfl
theorem brd0_ok : BrdOk brd0 0 := by
  have key : ∀ i : Fin 28, (brd0.getD i.val 0 = 6 → i.val = 3) ∧ (brd0.getD i.val 0 = 14 → i.val = 24) ∧ brd0.getD i.val 0 ≠ 1 ∧ brd0.getD i.val 0 ≠ 9 := by decide
  have get : ∀ (i : Nat) (x : Int), brd0[i]? = some x → i < 28 ∧ brd0.getD i 0 = x := fun i x e => by
    refine ⟨(List.getElem?_eq_some_iff.mp e).1, ?_⟩
    rw [List.getD_eq_getElem?_getD, e]; rfl
  refine ⟨⟨rfl, rfl, rfl, ?_, ?_⟩, ?_, ?_⟩
  · intro i x e
    obtain ⟨hi, rfl⟩ := get i x e
    exact ⟨(key ⟨i, hi⟩).1, (key ⟨i, hi⟩).2.1⟩
  · intro x hx
    have : x = 0 ∨ x = 6 ∨ x = 14 := by
      unfold brd0 at hx
      simp only [List.mem_cons, List.not_mem_nil, or_false] at hx
      lia
    rcases this with rfl | rfl | rfl
    · exact .inl rfl
    · exact .inr ⟨0, 6, by lia, by lia, by lia, rfl⟩
    · exact .inr ⟨1, 6, by lia, by lia, by lia, rfl⟩
  · intro i x e hx
    obtain ⟨hi, rfl⟩ := get i x e
    rcases hx with h | h
    · exact absurd h (key ⟨i, hi⟩).2.2.1
    · exact absurd h (key ⟨i, hi⟩).2.2.2
  · intro j _ hb
    rw [Nat.zero_testBit] at hb; cases hb
structure LawPos (σ : AH) (p : Nat) (P : Pz) (s r h f : Nat) : Prop where
  geo : Geo σ
  pos : PosAt σ p P
  brd : BrdOk P.b r
  r16 : r < 16
  rights : P.rights = (r : Int)
  s2 : s < 2
  side : P.side = (s : Int)
  half : P.half = (h : Int)
  h50 : h < 50
  full : P.full = (f : Int)
  f1 : 1 ≤ f ∧ f ≤ 300
  key : P.key = fkey P.b P.side P.rights
theorem law_board_ok (xs : List Int) (hx : xs.length ≤ 30) : ∃ σ' P s r h f, runF initOf tbl 19 60 [.obj 1] [.list (xs.map .int), .dict [(26, .obj 0), (27, .int 0)]] = some (.obj 52, σ') ∧ LawPos σ' 52 P s r h f := by
  obtain ⟨σ0, hσ0⟩ : ∃ σ0 : AH, σ0 = .list (xs.map .int) :: .dict [(26, .obj 0), (27, .int 0)] :: base := ⟨_, rfl⟩
  have B0 : LB σ0 xs pz0 := by
    rw [hσ0]
    exact ⟨pos0 _ _, fun i hi => by rw [List.getElem?_cons_succ, List.getElem?_cons_succ], 0, rfl, rfl, hx⟩
  have loop1 := forV_r0 (st := stK 5) (body := bd (runF initOf tbl 18) lb1) 4 (by lia)
    (fun i env σ => L1 σ xs i ∧ ∃ x5 x6, env = [some (.obj 1), none, some (.obj 17), some (.obj 20), some (.obj 52), x5, x6, none, none, none, none, none])
    (fun i env σ hi I => by
      obtain ⟨I1, x5, x6, rfl⟩ := I
      obtain ⟨σ', y6, e, I2⟩ := turn1 16 hi I1 (x1 := none) (x2 := some (.obj 17)) (x3 := some (.obj 20)) (x6 := x6) (x7 := none) (x8 := none) (x9 := none) (x10 := none) (x11 := none)
      exact ⟨_, rfl, .next, _, _, .inl rfl, e, I2, _, _, rfl⟩)
    envB σ0 ⟨⟨pz0, 0, B0, rfl, by decide, brd0_ok, fun j _ hj => by
      rcases (by lia : j = 0 ∨ j = 1 ∨ j = 2 ∨ j = 3) with rfl | rfl | rfl | rfl <;> rfl⟩, none, none, rfl⟩
  obtain ⟨env1, σ1, e1, ⟨⟨P1, r, B1, hr1, r16, O1, _⟩⟩, x5, x6, rfl⟩ := loop1
  obtain ⟨m, hm, σ2, dm, B2⟩ := draw_ok 17 B1 (m := 6) (by lia)
  have loop2 := forV_r0 (st := stK 7) (body := bd (runF initOf tbl 18) lb2) m (by lia)
    (fun i env σ => L2 σ xs r ∧ ∃ x1 x7 x8 x9, env = [some (.obj 1), x1, some (.obj 17), some (.obj 20), some (.obj 52), x5, x6, x7, x8, x9, none, none])
    (fun i env σ hi I => by
      obtain ⟨I1, x1, x7, x8, x9, rfl⟩ := I
      obtain ⟨σ', y1, y8, y9, e, I2⟩ := turn2 16 I1 (x1 := x1) (x2 := some (.obj 17)) (x3 := some (.obj 20)) (x5 := x5) (x6 := x6) (x7 := some (.int (i : Int))) (x8 := x8) (x9 := x9) (x10 := none) (x11 := none)
      exact ⟨_, rfl, .next, _, _, .inl rfl, e, I2, _, _, _, _, rfl⟩)
    [some (.obj 1), none, some (.obj 17), some (.obj 20), some (.obj 52), x5, x6, none, none, none, none, none] σ2 ⟨⟨P1, B2, hr1, O1⟩, none, none, none, none, rfl⟩
  obtain ⟨env3, σ3, e3, ⟨⟨P3, B3, hr3, O3⟩⟩, x1, x7, x8, x9, rfl⟩ := loop2
  obtain ⟨s, s2, σ4, d4, B4⟩ := draw_ok 17 B3 (m := 2) (by lia)
  obtain ⟨h, h50, σ5, d5, B5⟩ := draw_ok 17 B4 (m := 50) (by lia)
  obtain ⟨f, f300, σ6, d6, B6⟩ := draw_ok 17 B5 (m := 300) (by lia)
  have cf : (1 : Int) + (f : Int) = ((1 + f : Nat) : Int) := by lia
  have sa1 := set_fld B6.pos 17 (.int (s : Int)) { P3 with side := (s : Int) } rfl
  have B7 := lb_set (Q := { P3 with side := (s : Int) }) B6 rfl
  have sa2 := set_fld B7.pos 23 (.int (h : Int)) { P3 with side := (s : Int), half := (h : Int) } rfl
  have B8 := lb_set (Q := { P3 with side := (s : Int), half := (h : Int) }) B7 rfl
  have sa3 := set_fld B8.pos 3 (.int ((1 + f : Nat) : Int)) { P3 with side := (s : Int), half := (h : Int), full := ((1 + f : Nat) : Int) } rfl
  have B9 := lb_set (Q := { P3 with side := (s : Int), half := (h : Int), full := ((1 + f : Nat) : Int) }) B8 rfl
  generalize hσ9 : (((σ6.set 52 _).set 52 _).set 52 _ : AH) = σ9 at B9 sa3
  have un : unpV (.tup [.int (s : Int), .int (h : Int), .int ((1 + f : Nat) : Int)]) σ6 = some [.int (s : Int), .int (h : Int), .int ((1 + f : Nat) : Int)] := rfl
  have sall : setAll [(4, 17), (4, 23), (4, 3)] [.int (s : Int), .int (h : Int), .int ((1 + f : Nat) : Int)] [some (.obj 1), x1, some (.obj 17), some (.obj 20), some (.obj 52), x5, x6, x7, x8, x9, none, none] σ6 = some σ9 := by
    exact bS rfl (bS sa1 (bS rfl (bS sa2 (bS rfl (bS sa3 rfl)))))
  have a17 : attrV (.obj 52) 17 σ9 = some (.int (s : Int)) := attr_i σ9 B9.pos.obj rfl
  have ci : (1 : Int) - (s : Int) = ((1 - s : Nat) : Int) := by lia
  have ic := in_check_ok 13 B9.geo B9.pos O3.kings (s := 1 - s) (by lia)
  have br4 : biV .range [.int 4] σ0 = some (.range 0 ((4 : Nat) : Int) 1, σ0) := bi_range σ0 (n := 4) (by lia)
  have brm := bi_range σ2 (n := m) (by lia)
  have dm' : runF initOf tbl 18 59 [.obj 1, .int 6] σ1 = some (.int m, σ2) := dm
  have d4' : runF initOf tbl 18 59 [.obj 1, .int 2] σ3 = some (.int s, σ4) := d4
  have d5' : runF initOf tbl 18 59 [.obj 1, .int 50] σ4 = some (.int h, σ5) := d5
  have d6' : runF initOf tbl 18 59 [.obj 1, .int 300] σ5 = some (.int f, σ6) := d6
  have rng : ∀ x ∈ P3.b, 0 ≤ x ∧ x < 15 := fun x hx => (O3.kings.cell x hx).range
  have pp := pre_ok (.list (xs.map .int)) (.dict [(26, .obj 0), (27, .int 0)])
  rw [← hσ0] at pp
  have body := pre_post 5 f_law_board.body pp
  unfold lb1 at e1
  unfold lb2 lb2c lb2b at e3
  unfold envB at e1
  cases hc : chk P3.b (1 - s) with
  | false =>
    have sk := settle_key_ok 15 B9.geo B9.pos (r := r) hr3 r16 (by show (s : Int) = 0 ∨ (s : Int) = 1; lia) rng
    rw [show (({ P3 with side := (s : Int), half := (h : Int), full := ((1 + f : Nat) : Int) } : Pz)).b = P3.b from rfl, hc] at ic
    refine ⟨_, _, s, r, h, 1 + f, ?_, B9.geo.set (Nat.le_refl _) _, B9.pos.setObj (Q := { P3 with side := (s : Int), half := (h : Int), full := ((1 + f : Nat) : Int), key := fkey P3.b (s : Int) P3.rights }) rfl, O3, r16, hr3, s2, rfl, rfl, h50, rfl, by lia, rfl⟩
    refine run_ret' (fn := f_law_board) rfl rfl ?_
    show ∃ env', exSs _ _ f_law_board.body (some (.obj 1) :: List.replicate 11 none) _ = _
    rw [body]
    have sk' := sk
    generalize runF initOf tbl 18 = F at *
    simp only [y_nil, y_cons, k_seq_n, k_seq_r, k_seq_c, y_asg, k_asg_s, k_end_s, y_asgA, k_asgA_s, k_asgA2_s, y_unp, k_unp_s, k_unp2_s, k_unp3_s, y_unpA, k_unpA_s, k_unpA2_s, y_aug, k_aug_s, k_aug2_s, y_augA, k_augA_s, k_augA2_s, k_augA3_s, k_augA4_s, y_ife, k_ife_t, k_ife_f, y_for, y_forT, k_for_s, y_ret, k_ret_s, y_exp, k_exp_s, y_cont, y_try, k_var_s, z_cst, z_var, z_tab, z_bin, k_bin_s, k_bin2_s, z_neg, k_neg_s, z_inv, k_inv_s, z_not, k_not_b, z_ife, k_ifE_t, k_ifE_f, k_bool_s, z_cmp, k_cmp_s, z_bop, k_bop_tt, k_bop_tf, k_bop_ft, k_bop_ff, z_attr, k_attr_s, z_sub, k_sub_s, k_sub2_s, z_slice, k_slice_s, k_slice2_s, k_slice3_s, z_rev, k_rev_s, z_list, z_tup, k_list0, k_list1, k_list6, k_tup2, k_tup3, k_tup4, z_call, k_call_s, z_new, k_new_s, k_new2_s, z_bi, k_bi_s, z_meth, k_meth_s, k_meth2_s, k_meth3_s, lst_str, z_comp, z_nil, z_cons, k_cons_s, k_cons2_s, k_tst_s, c_one, k_one_s, c_cons, k_cc_s, k_cc2_t, k_cc2_f, t_val, k_val_s, t_not, k_tnot_s, t_bop, k_tbop_tt, k_tbop_tf, k_tbop_ft, k_tbop_ff, t_cmp, k_tcmp_s, i_nil, b_add, b_sub, b_and, b_or, b_xor, u_add, u_sub, u_or, u_xor, m_eq, m_ne, m_lt, m_le, m_gt, m_ge, m_seq, m_sne, v_bool, v_int, Bool.not_true, Bool.not_false, Option.join_some, g0, g1, g2, g3, g4, g5, g6, g7, g8, g9, g10, g11, s0, s1, s2, s3, s4, s5, s6, s7, s8, s9, s10, s11, f_law_board, post, envB, br4, e1, dm', brm, e3, d4', d5', d6', cf, un, sall, a17, ci, ic, sk']
    exact ⟨_, rfl⟩
  | true =>
    have sa4 := set_fld B9.pos 17 (.int ((1 - s : Nat) : Int)) { P3 with side := ((1 - s : Nat) : Int), half := (h : Int), full := ((1 + f : Nat) : Int) } rfl
    have B10 := lb_set (Q := { P3 with side := ((1 - s : Nat) : Int), half := (h : Int), full := ((1 + f : Nat) : Int) }) B9 rfl
    have sk := settle_key_ok 15 B10.geo B10.pos (r := r) hr3 r16 (by show ((1 - s : Nat) : Int) = 0 ∨ ((1 - s : Nat) : Int) = 1; lia) rng
    rw [show (({ P3 with side := (s : Int), half := (h : Int), full := ((1 + f : Nat) : Int) } : Pz)).b = P3.b from rfl, hc] at ic
    refine ⟨_, _, 1 - s, r, h, 1 + f, ?_, B10.geo.set (Nat.le_refl _) _, B10.pos.setObj (Q := { P3 with side := ((1 - s : Nat) : Int), half := (h : Int), full := ((1 + f : Nat) : Int), key := fkey P3.b ((1 - s : Nat) : Int) P3.rights }) rfl, O3, r16, hr3, by lia, rfl, rfl, h50, rfl, by lia, rfl⟩
    refine run_ret' (fn := f_law_board) rfl rfl ?_
    show ∃ env', exSs _ _ f_law_board.body (some (.obj 1) :: List.replicate 11 none) _ = _
    rw [body]
    have sk' := sk
    generalize runF initOf tbl 18 = F at *
    simp only [y_nil, y_cons, k_seq_n, k_seq_r, k_seq_c, y_asg, k_asg_s, k_end_s, y_asgA, k_asgA_s, k_asgA2_s, y_unp, k_unp_s, k_unp2_s, k_unp3_s, y_unpA, k_unpA_s, k_unpA2_s, y_aug, k_aug_s, k_aug2_s, y_augA, k_augA_s, k_augA2_s, k_augA3_s, k_augA4_s, y_ife, k_ife_t, k_ife_f, y_for, y_forT, k_for_s, y_ret, k_ret_s, y_exp, k_exp_s, y_cont, y_try, k_var_s, z_cst, z_var, z_tab, z_bin, k_bin_s, k_bin2_s, z_neg, k_neg_s, z_inv, k_inv_s, z_not, k_not_b, z_ife, k_ifE_t, k_ifE_f, k_bool_s, z_cmp, k_cmp_s, z_bop, k_bop_tt, k_bop_tf, k_bop_ft, k_bop_ff, z_attr, k_attr_s, z_sub, k_sub_s, k_sub2_s, z_slice, k_slice_s, k_slice2_s, k_slice3_s, z_rev, k_rev_s, z_list, z_tup, k_list0, k_list1, k_list6, k_tup2, k_tup3, k_tup4, z_call, k_call_s, z_new, k_new_s, k_new2_s, z_bi, k_bi_s, z_meth, k_meth_s, k_meth2_s, k_meth3_s, lst_str, z_comp, z_nil, z_cons, k_cons_s, k_cons2_s, k_tst_s, c_one, k_one_s, c_cons, k_cc_s, k_cc2_t, k_cc2_f, t_val, k_val_s, t_not, k_tnot_s, t_bop, k_tbop_tt, k_tbop_tf, k_tbop_ft, k_tbop_ff, t_cmp, k_tcmp_s, i_nil, b_add, b_sub, b_and, b_or, b_xor, u_add, u_sub, u_or, u_xor, m_eq, m_ne, m_lt, m_le, m_gt, m_ge, m_seq, m_sne, v_bool, v_int, Bool.not_true, Bool.not_false, Option.join_some, g0, g1, g2, g3, g4, g5, g6, g7, g8, g9, g10, g11, s0, s1, s2, s3, s4, s5, s6, s7, s8, s9, s10, s11, f_law_board, post, envB, br4, e1, dm', brm, e3, d4', d5', d6', cf, un, sall, a17, ci, ic, sa4, sk']
    exact ⟨_, rfl⟩
end Mine
namespace Mine
open PySem
theorem read_rights_ok (d : Nat) (σ : AH) : ∀ r : Nat, r < 16 → runF initOf tbl (d + 1) 46 [.str (rgtT r)] σ = some (.int (r : Int), σ)
  | 0, _ => by kernel_rfl | 1, _ => by kernel_rfl | 2, _ => by kernel_rfl | 3, _ => by kernel_rfl
  | 4, _ => by kernel_rfl | 5, _ => by kernel_rfl | 6, _ => by kernel_rfl | 7, _ => by kernel_rfl
  | 8, _ => by kernel_rfl | 9, _ => by kernel_rfl | 10, _ => by kernel_rfl | 11, _ => by kernel_rfl
  | 12, _ => by kernel_rfl | 13, _ => by kernel_rfl | 14, _ => by kernel_rfl | 15, _ => by kernel_rfl
  | n + 16, h => absurd h (by lia)
theorem read_ep_ok (d : Nat) (σ : AH) : runF initOf tbl (d + 1) 47 [.str [45], .int 7, .int 4] σ = some (.int (-1), σ) := by kernel_rfl
theorem read_side_ok (d : Nat) (σ : AH) : ∀ s : Nat, s < 2 → runF initOf tbl (d + 1) 45 [.str (sideT (s : Int))] σ = some (.int (s : Int), σ)
  | 0, _ => by kernel_rfl
  | 1, _ => by kernel_rfl
  | n + 2, h => absurd h (by lia)
noncomputable def dgs : List Nat := [48, 49, 50, 51, 52, 53, 54, 55, 56, 57]
theorem find_dig : ∀ c : Fin 58, 48 ≤ c.val → findL c.val dgs 0 = ((c.val - 48 : Nat) : Int) := by decide
noncomputable def pnBody : ISs := .cons (.asg 3 (.meth .find (.cst (.str [48,
    49, 50, 51, 52, 53, 54, 55, 56, 57])) (.cons (.var 2) (.nil)))) (.cons (.ife (.cmp (.var 3) (.one .Lt (.cst (.int 0)))) (.cons (.ret (.neg (.cst (.int 1)))) (.nil)) (.nil)) (.cons (.asg 1 (.bin .Add (.bin .Mult (.var 1) (.cst
    (.int 10))) (.var 3))) (.nil)))
theorem pn_body {F : FT} {σ : AH} {t0 : V} {a c : Nat} {x3 : Option V} (hc : 48 ≤ c ∧ c ≤ 57) (ha : a < 1000) :
    ∃ y3, bd F pnBody [some t0, some (.int (a : Int)), some (.str [c]), x3] σ = some (.next, [some t0, some (.int ((a * 10 + (c - 48) : Nat) : Int)), some (.str [c]), y3], σ) := by
  have f := find_dig ⟨c, by lia⟩ hc.1
  dsimp only at f
  unfold dgs at f
  have mf := me_find σ [48, 49, 50, 51, 52, 53, 54, 55, 56, 57] c (by decide)
  rw [f] at mf
  have dd : decide (((c - 48 : Nat) : Int) < 0) = false := decide_eq_false (by lia)
  have mu := b_mul σ (a := (a : Int)) (b := 10) ⟨by unfold bitsOk; exact decide_eq_true (by lia), by decide⟩
  have ci : (a : Int) * 10 + ((c - 48 : Nat) : Int) = ((a * 10 + (c - 48) : Nat) : Int) := by lia
  refine ⟨some (.int ((c - 48 : Nat) : Int)), ?_⟩
  simp only [y_nil, y_cons, k_seq_n, k_seq_r, k_seq_c, y_asg, k_asg_s, k_end_s, y_asgA, k_asgA_s, k_asgA2_s, y_unp, k_unp_s, k_unp2_s, k_unp3_s, y_unpA, k_unpA_s, k_unpA2_s, y_aug, k_aug_s, k_aug2_s, y_augA, k_augA_s, k_augA2_s, k_augA3_s, k_augA4_s, y_ife, k_ife_t, k_ife_f, y_for, y_forT, k_for_s, y_ret, k_ret_s, y_exp, k_exp_s, y_cont, y_try, k_var_s, z_cst, z_var, z_tab, z_bin, k_bin_s, k_bin2_s, z_neg, k_neg_s, z_inv, k_inv_s, z_not, k_not_b, z_ife, k_ifE_t, k_ifE_f, k_bool_s, z_cmp, k_cmp_s, z_bop, k_bop_tt, k_bop_tf, k_bop_ft, k_bop_ff, z_attr, k_attr_s, z_sub, k_sub_s, k_sub2_s, z_slice, k_slice_s, k_slice2_s, k_slice3_s, z_rev, k_rev_s, z_list, z_tup, k_list0, k_list1, k_list6, k_tup2, k_tup3, k_tup4, z_call, k_call_s, z_new, k_new_s, k_new2_s, z_bi, k_bi_s, z_meth, k_meth_s, k_meth2_s, k_meth3_s, lst_str, z_comp, z_nil, z_cons, k_cons_s, k_cons2_s, k_tst_s, c_one, k_one_s, c_cons, k_cc_s, k_cc2_t, k_cc2_f, t_val, k_val_s, t_not, k_tnot_s, t_bop, k_tbop_tt, k_tbop_tf, k_tbop_ft, k_tbop_ff, t_cmp, k_tcmp_s, i_nil, b_add, b_sub, b_and, b_or, b_xor, u_add, u_sub, u_or, u_xor, m_eq, m_ne, m_lt, m_le, m_gt, m_ge, m_seq, m_sne, v_bool, v_int, Bool.not_true, Bool.not_false, Option.join_some, g0, g1, g2, g3, g4, g5, g6, g7, g8, g9, g10, g11, s0, s1, s2, s3, s4, s5, s6, s7, s8, s9, s10, s11, bd, pnBody, mf, dd, mu, ci]
theorem num_all {n : Nat} (h : n < 301) : (intText (n : Int)).length ≤ 3 ∧ (∃ c r, intText (n : Int) = c :: r ∧ (c ≠ 48 ∨ r = [])) ∧ (∀ c ∈ intText (n : Int), 48 ≤ c ∧ c ≤ 57) ∧ valL (intText (n : Int)) 0 = n := by
  have := num_ok ⟨n, h⟩
  simp only [numOk, Bool.and_eq_true, decide_eq_true_eq, List.all_eq_true] at this
  obtain ⟨⟨⟨h1, h2⟩, h3⟩, h4⟩ := this
  refine ⟨h1, ?_, h3, h4⟩
  cases e : intText (n : Int) with
  | nil => rw [e] at h2; cases h2
  | cons c r =>
    rw [e] at h2
    refine ⟨c, r, rfl, ?_⟩
    simpa using h2
theorem plain_number_ok (d : Nat) (σ : AH) {n : Nat} (h : n < 301) : runF initOf tbl (d + 1) 42 [.str (intText (n : Int))] σ = some (.int (n : Int), σ) := by
  obtain ⟨h1, ⟨c, r, hcr, h2⟩, h3, h4⟩ := num_all h
  generalize intText (n : Int) = x at *
  have asc : asciiL x = true := by
    unfold asciiL
    rw [List.all_eq_true]
    exact fun c hc => decide_eq_true (by have := h3 c hc; lia)
  refine run_ret' (fn := f_plain_number) rfl rfl ?_
  show ∃ env', exSs _ _ f_plain_number.body ([some (.str x), none, none, none]) σ = _
  generalize runF initOf tbl d = F at *
  have loop := forV_str (st := stK 2) (body := bd F pnBody) asc
    (fun i env σ' => σ' = σ ∧ ∃ a x2 x3, env = [some (.str x), some (.int ((a : Nat) : Int)), x2, x3] ∧ valL (x.drop i) a = n ∧ a < 10 ^ i)
    (fun i env σ' c hc I => by
      obtain ⟨rfl, a, x2, x3, rfl, v1, v2⟩ := I
      have hi := (List.getElem?_eq_some_iff.mp hc).1
      have cd := h3 c (List.mem_of_getElem? hc)
      have a1000 : a < 1000 := by
        have : 10 ^ i ≤ 10 ^ 2 := Nat.pow_le_pow_right (by lia) (by lia)
        lia
      obtain ⟨y3, e⟩ := pn_body (F := F) (σ := σ') (t0 := .str x) (a := a) (c := c) (x3 := x3) cd a1000
      refine ⟨_, rfl, .next, _, _, .inl rfl, e, rfl, _, _, _, rfl, ?_, ?_⟩
      · rw [List.drop_eq_getElem_cons hi, valL] at v1
        rw [(List.getElem?_eq_some_iff.mp hc).2] at v1
        exact v1
      · rw [Nat.pow_succ]; lia)
    [some (.str x), some (.int 0), none, none] σ ⟨rfl, 0, none, none, rfl, h4, by lia⟩
  obtain ⟨env', σ', e, rfl, a, x2, x3, rfl, v1, _⟩ := loop
  rw [List.drop_eq_nil_of_le (Nat.le_refl _), valL] at v1
  subst v1
  unfold pnBody at e
  have bl := bi_len_s σ' (x := x) (by lia)
  have d1 : decide (x = []) = false := decide_eq_false (by rw [hcr]; exact fun z => nomatch z)
  have d2 : decide ((255 : Int) < (x.length : Int)) = false := decide_eq_false (by lia)
  have sb : subV (.str x) (.int 0) σ' = some (.str [c]) := sub_sx σ' (i := 0) (by rw [hcr]; rfl) (by lia)
  by_cases h48 : c = 48
  · have d3 : decide (([c] : List Nat) = [48]) = true := decide_eq_true (by rw [h48])
    have hr : r = [] := by rcases h2 with h2 | h2; exact absurd h48 h2; exact h2
    have d4 : decide ((1 : Int) < (x.length : Int)) = false := decide_eq_false (by rw [hcr, hr, List.length_singleton]; decide)
    simp only [y_nil, y_cons, k_seq_n, k_seq_r, k_seq_c, y_asg, k_asg_s, k_end_s, y_asgA, k_asgA_s, k_asgA2_s, y_unp, k_unp_s, k_unp2_s, k_unp3_s, y_unpA, k_unpA_s, k_unpA2_s, y_aug, k_aug_s, k_aug2_s, y_augA, k_augA_s, k_augA2_s, k_augA3_s, k_augA4_s, y_ife, k_ife_t, k_ife_f, y_for, y_forT, k_for_s, y_ret, k_ret_s, y_exp, k_exp_s, y_cont, y_try, k_var_s, z_cst, z_var, z_tab, z_bin, k_bin_s, k_bin2_s, z_neg, k_neg_s, z_inv, k_inv_s, z_not, k_not_b, z_ife, k_ifE_t, k_ifE_f, k_bool_s, z_cmp, k_cmp_s, z_bop, k_bop_tt, k_bop_tf, k_bop_ft, k_bop_ff, z_attr, k_attr_s, z_sub, k_sub_s, k_sub2_s, z_slice, k_slice_s, k_slice2_s, k_slice3_s, z_rev, k_rev_s, z_list, z_tup, k_list0, k_list1, k_list6, k_tup2, k_tup3, k_tup4, z_call, k_call_s, z_new, k_new_s, k_new2_s, z_bi, k_bi_s, z_meth, k_meth_s, k_meth2_s, k_meth3_s, lst_str, z_comp, z_nil, z_cons, k_cons_s, k_cons2_s, k_tst_s, c_one, k_one_s, c_cons, k_cc_s, k_cc2_t, k_cc2_f, t_val, k_val_s, t_not, k_tnot_s, t_bop, k_tbop_tt, k_tbop_tf, k_tbop_ft, k_tbop_ff, t_cmp, k_tcmp_s, i_nil, b_add, b_sub, b_and, b_or, b_xor, u_add, u_sub, u_or, u_xor, m_eq, m_ne, m_lt, m_le, m_gt, m_ge, m_seq, m_sne, v_bool, v_int, Bool.not_true, Bool.not_false, Option.join_some, g0, g1, g2, g3, g4, g5, g6, g7, g8, g9, g10, g11, s0, s1, s2, s3, s4, s5, s6, s7, s8, s9, s10, s11, f_plain_number, bl, d1, d2, sb, d3, d4, e]
    exact ⟨_, rfl⟩
  · have d3 : decide (([c] : List Nat) = [48]) = false := decide_eq_false (fun z => h48 (by injection z))
    simp only [y_nil, y_cons, k_seq_n, k_seq_r, k_seq_c, y_asg, k_asg_s, k_end_s, y_asgA, k_asgA_s, k_asgA2_s, y_unp, k_unp_s, k_unp2_s, k_unp3_s, y_unpA, k_unpA_s, k_unpA2_s, y_aug, k_aug_s, k_aug2_s, y_augA, k_augA_s, k_augA2_s, k_augA3_s, k_augA4_s, y_ife, k_ife_t, k_ife_f, y_for, y_forT, k_for_s, y_ret, k_ret_s, y_exp, k_exp_s, y_cont, y_try, k_var_s, z_cst, z_var, z_tab, z_bin, k_bin_s, k_bin2_s, z_neg, k_neg_s, z_inv, k_inv_s, z_not, k_not_b, z_ife, k_ifE_t, k_ifE_f, k_bool_s, z_cmp, k_cmp_s, z_bop, k_bop_tt, k_bop_tf, k_bop_ft, k_bop_ff, z_attr, k_attr_s, z_sub, k_sub_s, k_sub2_s, z_slice, k_slice_s, k_slice2_s, k_slice3_s, z_rev, k_rev_s, z_list, z_tup, k_list0, k_list1, k_list6, k_tup2, k_tup3, k_tup4, z_call, k_call_s, z_new, k_new_s, k_new2_s, z_bi, k_bi_s, z_meth, k_meth_s, k_meth2_s, k_meth3_s, lst_str, z_comp, z_nil, z_cons, k_cons_s, k_cons2_s, k_tst_s, c_one, k_one_s, c_cons, k_cc_s, k_cc2_t, k_cc2_f, t_val, k_val_s, t_not, k_tnot_s, t_bop, k_tbop_tt, k_tbop_tf, k_tbop_ft, k_tbop_ff, t_cmp, k_tcmp_s, i_nil, b_add, b_sub, b_and, b_or, b_xor, u_add, u_sub, u_or, u_xor, m_eq, m_ne, m_lt, m_le, m_gt, m_ge, m_seq, m_sne, v_bool, v_int, Bool.not_true, Bool.not_false, Option.join_some, g0, g1, g2, g3, g4, g5, g6, g7, g8, g9, g10, g11, s0, s1, s2, s3, s4, s5, s6, s7, s8, s9, s10, s11, f_plain_number, bl, d1, d2, sb, d3, e]
    exact ⟨_, rfl⟩
theorem read_clock_ok (d : Nat) (σ : AH) {n l : Nat} (h : n < 301) (hl : l ≤ n) (p : Int) : runF initOf tbl (d + 2) 48 [.str (intText (n : Int)), .int p, .int (l : Int)] σ = some (.int (n : Int), σ) := by
  have pn := plain_number_ok d σ h
  have dd : decide ((n : Int) < (l : Int)) = false := decide_eq_false (by lia)
  refine run_ret' (fn := f_read_clock) rfl rfl ?_
  show ∃ env', exSs _ _ f_read_clock.body ([some (.str (intText (n : Int))), some (.int p), some (.int (l : Int)), none]) σ = _
  generalize runF initOf tbl (d + 1) = F at *
  simp only [y_nil, y_cons, k_seq_n, k_seq_r, k_seq_c, y_asg, k_asg_s, k_end_s, y_asgA, k_asgA_s, k_asgA2_s, y_unp, k_unp_s, k_unp2_s, k_unp3_s, y_unpA, k_unpA_s, k_unpA2_s, y_aug, k_aug_s, k_aug2_s, y_augA, k_augA_s, k_augA2_s, k_augA3_s, k_augA4_s, y_ife, k_ife_t, k_ife_f, y_for, y_forT, k_for_s, y_ret, k_ret_s, y_exp, k_exp_s, y_cont, y_try, k_var_s, z_cst, z_var, z_tab, z_bin, k_bin_s, k_bin2_s, z_neg, k_neg_s, z_inv, k_inv_s, z_not, k_not_b, z_ife, k_ifE_t, k_ifE_f, k_bool_s, z_cmp, k_cmp_s, z_bop, k_bop_tt, k_bop_tf, k_bop_ft, k_bop_ff, z_attr, k_attr_s, z_sub, k_sub_s, k_sub2_s, z_slice, k_slice_s, k_slice2_s, k_slice3_s, z_rev, k_rev_s, z_list, z_tup, k_list0, k_list1, k_list6, k_tup2, k_tup3, k_tup4, z_call, k_call_s, z_new, k_new_s, k_new2_s, z_bi, k_bi_s, z_meth, k_meth_s, k_meth2_s, k_meth3_s, lst_str, z_comp, z_nil, z_cons, k_cons_s, k_cons2_s, k_tst_s, c_one, k_one_s, c_cons, k_cc_s, k_cc2_t, k_cc2_f, t_val, k_val_s, t_not, k_tnot_s, t_bop, k_tbop_tt, k_tbop_tf, k_tbop_ft, k_tbop_ff, t_cmp, k_tcmp_s, i_nil, b_add, b_sub, b_and, b_or, b_xor, u_add, u_sub, u_or, u_xor, m_eq, m_ne, m_lt, m_le, m_gt, m_ge, m_seq, m_sne, v_bool, v_int, Bool.not_true, Bool.not_false, Option.join_some, g0, g1, g2, g3, g4, g5, g6, g7, g8, g9, g10, g11, s0, s1, s2, s3, s4, s5, s6, s7, s8, s9, s10, s11, f_read_clock, pn, dd]
  exact ⟨_, rfl⟩
end Mine
namespace Mine
open PySem
noncomputable def rd : List Nat → List Int → Bool → Option (List Int)
  | [], acc, _ => some acc
  | c :: t, acc, w => if 0 ≤ findL c dgs 0 then (if findL c dgs 0 = 0 ∨ w = true then none else rd t (acc ++ List.replicate (findL c dgs 0).toNat 0) true)
    else if findL c letters 0 ≤ 0 then none else rd t (acc ++ [findL c letters 0]) false
theorem find_let : ∀ sd : Fin 2, ∀ k : Fin 7, 1 ≤ k.val → findL (letC ((sd.val : Int) * 8 + (k.val : Int))) dgs 0 = -1 ∧ findL (letC ((sd.val : Int) * 8 + (k.val : Int))) letters 0 = (sd.val : Int) * 8 + (k.val : Int) ∧ letC ((sd.val : Int) * 8 + (k.val : Int)) ≠ 46 := by decide +kernel
theorem find_let' {x : Int} (h : CellOk x) (h0 : x ≠ 0) : findL (letC x) dgs 0 = -1 ∧ findL (letC x) letters 0 = x ∧ letC x ≠ 46 := by
  rcases h with rfl | ⟨sd, k, h1, h2, h3, rfl⟩
  · exact absurd rfl h0
  · exact find_let ⟨sd, h1⟩ ⟨k, by lia⟩ h2
theorem rd_let {x : Int} (h : CellOk x) (h0 : x ≠ 0) (t : List Nat) (acc : List Int) (w : Bool) : rd (letC x :: t) acc w = rd t (acc ++ [x]) false := by
  obtain ⟨f1, f2, _⟩ := find_let' h h0
  have := h.range
  rw [rd, f1, f2, if_neg (by lia), if_neg (by lia)]
theorem rd_dig {g : Nat} (h : 1 ≤ g ∧ g ≤ 9) (t : List Nat) (acc : List Int) : rd ((48 + g) :: t) acc false = rd t (acc ++ List.replicate g 0) true := by
  have f := find_dig ⟨48 + g, by lia⟩ (by show 48 ≤ 48 + g; lia)
  dsimp only at f
  rw [show 48 + g - 48 = g by lia] at f
  rw [rd, f, if_pos (by lia), if_neg (by simp; lia), Int.toNat_natCast]
theorem rd_row : ∀ (cells : List Int) (g : Nat) (acc : List Int), (∀ x ∈ cells, CellOk x) → g + cells.length < 10 → rd (rowT cells g) acc false = some (acc ++ List.replicate g 0 ++ cells)
  | [], g, acc, _, hg => by
    simp only [List.length_nil] at hg
    rw [rowT]
    unfold gapT
    split
    · rename_i e; rw [e, rd]; simp
    · rw [rd_dig (by lia), rd]; simp
  | x :: r, g, acc, hx, hg => by
    simp only [List.length_cons] at hg
    rw [rowT]
    by_cases h0 : x = 0
    · rw [if_pos h0, rd_row r (g + 1) acc (fun y hy => hx y (List.mem_cons_of_mem _ hy)) (by lia), h0, List.replicate_succ']
      simp
    · rw [if_neg h0]
      have hc := hx x List.mem_cons_self
      have ih := fun acc => rd_row r 0 acc (fun y hy => hx y (List.mem_cons_of_mem _ hy)) (by lia)
      unfold gapT
      split
      · rename_i e
        rw [List.nil_append, rd_let hc h0, ih, e]; simp
      · rw [List.cons_append, List.nil_append, rd_dig (by lia), rd_let hc h0, ih]; simp
theorem piece_of_ok (d : Nat) {x : Int} (h : CellOk x) (h0 : x ≠ 0) (σ : AH) : runF initOf tbl (d + 1) 5 [.str [letC x]] σ = some (.int x, σ) := by
  obtain ⟨_, f2, f3⟩ := find_let' h h0
  have mf := me_find σ letters (letC x) (by decide)
  rw [f2] at mf
  unfold letters at mf
  have bl := bi_len_s σ (x := [letC x]) (by simp)
  have d1 : decide ((([letC x] : List Nat).length : Int) = 1) = true := rfl
  have d2 : decide (([letC x] : List Nat) = [46]) = false := decide_eq_false (fun z => f3 (by injection z))
  refine run_ret' (fn := f_piece_of) rfl rfl ?_
  show ∃ env', exSs _ _ f_piece_of.body ([some (.str [letC x])]) σ = _
  generalize runF initOf tbl d = F at *
  simp only [y_nil, y_cons, k_seq_n, k_seq_r, k_seq_c, y_asg, k_asg_s, k_end_s, y_asgA, k_asgA_s, k_asgA2_s, y_unp, k_unp_s, k_unp2_s, k_unp3_s, y_unpA, k_unpA_s, k_unpA2_s, y_aug, k_aug_s, k_aug2_s, y_augA, k_augA_s, k_augA2_s, k_augA3_s, k_augA4_s, y_ife, k_ife_t, k_ife_f, y_for, y_forT, k_for_s, y_ret, k_ret_s, y_exp, k_exp_s, y_cont, y_try, k_var_s, z_cst, z_var, z_tab, z_bin, k_bin_s, k_bin2_s, z_neg, k_neg_s, z_inv, k_inv_s, z_not, k_not_b, z_ife, k_ifE_t, k_ifE_f, k_bool_s, z_cmp, k_cmp_s, z_bop, k_bop_tt, k_bop_tf, k_bop_ft, k_bop_ff, z_attr, k_attr_s, z_sub, k_sub_s, k_sub2_s, z_slice, k_slice_s, k_slice2_s, k_slice3_s, z_rev, k_rev_s, z_list, z_tup, k_list0, k_list1, k_list6, k_tup2, k_tup3, k_tup4, z_call, k_call_s, z_new, k_new_s, k_new2_s, z_bi, k_bi_s, z_meth, k_meth_s, k_meth2_s, k_meth3_s, lst_str, z_comp, z_nil, z_cons, k_cons_s, k_cons2_s, k_tst_s, c_one, k_one_s, c_cons, k_cc_s, k_cc2_t, k_cc2_f, t_val, k_val_s, t_not, k_tnot_s, t_bop, k_tbop_tt, k_tbop_tf, k_tbop_ft, k_tbop_ff, t_cmp, k_tcmp_s, i_nil, b_add, b_sub, b_and, b_or, b_xor, u_add, u_sub, u_or, u_xor, m_eq, m_ne, m_lt, m_le, m_gt, m_ge, m_seq, m_sne, v_bool, v_int, Bool.not_true, Bool.not_false, Option.join_some, g0, g1, g2, g3, g4, g5, g6, g7, g8, g9, g10, g11, s0, s1, s2, s3, s4, s5, s6, s7, s8, s9, s10, s11, f_piece_of, bl, d1, d2, mf]
  exact ⟨_, rfl⟩
theorem mul_list {σ : AH} {n g : Nat} (h : σ[n]? = some (.list [.int 0])) (hg : g ≤ 1000) : binV .Mult (.obj n) (.int (g : Int)) σ = some (.obj σ.length, σ ++ [.list (repL [.int 0] g)]) := by
  have c : (-1000 : Int) ≤ (g : Int) ∧ (g : Int) ≤ 1000 ∧ ([V.int 0] : List V).length ≤ 100 := ⟨by lia, by lia, by decide⟩
  delta binV; dsimp only; rw [h]; dsimp only; rw [if_pos c, Int.toNat_natCast]
theorem repL_rep : ∀ g : Nat, repL [V.int 0] g = (List.replicate g (0 : Int)).map .int
  | 0 => rfl
  | g + 1 => by rw [repL_succ, repL_rep g, List.replicate_succ]; rfl
theorem me_extend {σ : AH} {n k : Nat} {xs ys : List V} (h1 : σ[n]? = some (.list xs)) (h2 : σ[k]? = some (.list ys)) (hn : n ≠ k) (l1 : xs.length ≤ 1000) (l2 : ys.length ≤ 1000) :
    methV .extend (.obj n) [.obj k] σ = some (.none, σ.set n (.list (xs ++ ys))) := by
  have c : xs.length ≤ lineL ∧ ys.length ≤ lineL := ⟨of_eq_true (ll_of (by lia)), of_eq_true (ll_of (by lia))⟩
  show (if n = k then none else (listAt σ n).bind fun xs => (listAt σ k).bind fun ys => if xs.length ≤ lineL ∧ ys.length ≤ lineL then some (V.none, σ.set n (.list (xs ++ ys))) else none) = _
  rw [if_neg hn, list_at σ h1, list_at σ h2, Option.bind_some, Option.bind_some, if_pos c]
noncomputable def rrBody : ISs := .cons (.asg 5 (.meth .find (.cst (.str [48, 49, 50, 51, 52, 53, 54, 55, 56, 57])) (.cons (.var 4) (.nil)))) (.cons (.ife (.cmp (.var 5)
    (.one .GtE (.cst (.int 0)))) (.cons (.ife (.bop false (.cmp (.var 5) (.one .Eq (.cst (.int 0)))) (.val (.var 3))) (.cons (.ret (.cst .none)) (.nil)) (.nil)) (.cons (.exp (.meth .extend (.var 2) (.cons (.bin .Mult (.list (.cons
    (.cst (.int 0)) (.nil))) (.var 5)) (.nil)))) (.cons (.asg 3 (.cst (.bool true))) (.nil)))) (.cons (.asg 6 (.call 5 (.cons (.var 4) (.nil)))) (.cons (.ife (.cmp (.var 6) (.one .LtE (.cst (.int 0)))) (.cons (.ret (.cst .none))
    (.nil)) (.nil)) (.cons (.exp (.meth .append (.var 2) (.cons (.var 6) (.nil)))) (.cons (.asg 3 (.cst (.bool false))) (.nil)))))) (.nil))
theorem rr_body (d : Nat) {σ : AH} {n c : Nat} {acc acc' : List Int} {w w' : Bool} {x0 x1 x5 x6 : Option V} (hn : σ[n]? = some (.list (acc.map .int))) (hl : acc.length ≤ 200)
    (hc : (∃ g, 1 ≤ g ∧ g ≤ 9 ∧ c = 48 + g ∧ w = false ∧ acc' = acc ++ List.replicate g 0 ∧ w' = true) ∨ (∃ x, CellOk x ∧ x ≠ 0 ∧ c = letC x ∧ acc' = acc ++ [x] ∧ w' = false)) :
    ∃ σ' y5 y6, bd (runF initOf tbl (d + 1)) rrBody [x0, x1, some (.obj n), some (.bool w), some (.str [c]), x5, x6] σ = some (.next, [x0, x1, some (.obj n), some (.bool w'), some (.str [c]), y5, y6], σ')
      ∧ σ'[n]? = some (.list (acc'.map .int)) ∧ σ.length ≤ σ'.length ∧ ∀ j, j < σ.length → j ≠ n → σ'[j]? = σ[j]? := by
  have mf := me_find σ dgs c (by decide)
  have n1 := (List.getElem?_eq_some_iff.mp hn).1
  have lo := lst_obj σ hn
  rcases hc with ⟨g, g1, g9, rfl, rfl, rfl, rfl⟩ | ⟨x, hx, h0, rfl, rfl, rfl⟩
  · have f := find_dig ⟨48 + g, by lia⟩ (by show 48 ≤ 48 + g; lia)
    dsimp only at f
    rw [show 48 + g - 48 = g by lia] at f
    rw [f] at mf
    unfold dgs at mf
    have d1 : decide ((0 : Int) ≤ (g : Int)) = true := decide_eq_true (by lia)
    have d2 : decide ((g : Int) = 0) = false := decide_eq_false (by lia)
    have ml := mul_list (σ := σ ++ [AO.list [V.int 0]]) (n := σ.length) (g := g) (by rw [ap_get0]; rfl) (by lia)
    rw [repL_rep, List.append_assoc] at ml
    have L2 : (σ ++ [AO.list [V.int 0]]).length = σ.length + 1 := by simp
    rw [L2] at ml
    obtain ⟨S, hS⟩ : ∃ S : AH, S = σ ++ ([AO.list [V.int 0]] ++ [AO.list ((List.replicate g (0 : Int)).map .int)]) := ⟨_, rfl⟩
    rw [← hS] at ml
    have E : Gro σ S := by rw [hS]; exact Gro.app _ _
    have lS : S.length = σ.length + 2 := by rw [hS]; simp
    have hk : S[σ.length + 1]? = some (.list ((List.replicate g (0 : Int)).map .int)) := by rw [hS, ap_get]; rfl
    have ex := me_extend (E.get hn) hk (by lia) (by rw [List.length_map]; lia) (by rw [List.length_map, List.length_replicate]; lia)
    rw [← List.map_append] at ex
    refine ⟨S.set n (.list ((acc ++ List.replicate g 0).map .int)), some (.int (g : Int)), x6, ?_, List.getElem?_set_self (by lia), by rw [List.length_set]; lia, fun j hj hne => by rw [List.getElem?_set_ne (by lia)]; exact E.same j hj⟩
    generalize runF initOf tbl (d + 1) = F at *
    simp only [y_nil, y_cons, k_seq_n, k_seq_r, k_seq_c, y_asg, k_asg_s, k_end_s, y_asgA, k_asgA_s, k_asgA2_s, y_unp, k_unp_s, k_unp2_s, k_unp3_s, y_unpA, k_unpA_s, k_unpA2_s, y_aug, k_aug_s, k_aug2_s, y_augA, k_augA_s, k_augA2_s, k_augA3_s, k_augA4_s, y_ife, k_ife_t, k_ife_f, y_for, y_forT, k_for_s, y_ret, k_ret_s, y_exp, k_exp_s, y_cont, y_try, k_var_s, z_cst, z_var, z_tab, z_bin, k_bin_s, k_bin2_s, z_neg, k_neg_s, z_inv, k_inv_s, z_not, k_not_b, z_ife, k_ifE_t, k_ifE_f, k_bool_s, z_cmp, k_cmp_s, z_bop, k_bop_tt, k_bop_tf, k_bop_ft, k_bop_ff, z_attr, k_attr_s, z_sub, k_sub_s, k_sub2_s, z_slice, k_slice_s, k_slice2_s, k_slice3_s, z_rev, k_rev_s, z_list, z_tup, k_list0, k_list1, k_list6, k_tup2, k_tup3, k_tup4, z_call, k_call_s, z_new, k_new_s, k_new2_s, z_bi, k_bi_s, z_meth, k_meth_s, k_meth2_s, k_meth3_s, lst_str, z_comp, z_nil, z_cons, k_cons_s, k_cons2_s, k_tst_s, c_one, k_one_s, c_cons, k_cc_s, k_cc2_t, k_cc2_f, t_val, k_val_s, t_not, k_tnot_s, t_bop, k_tbop_tt, k_tbop_tf, k_tbop_ft, k_tbop_ff, t_cmp, k_tcmp_s, i_nil, b_add, b_sub, b_and, b_or, b_xor, u_add, u_sub, u_or, u_xor, m_eq, m_ne, m_lt, m_le, m_gt, m_ge, m_seq, m_sne, v_bool, v_int, Bool.not_true, Bool.not_false, Option.join_some, g0, g1, g2, g3, g4, g5, g6, g7, g8, g9, g10, g11, s0, s1, s2, s3, s4, s5, s6, s7, s8, s9, s10, s11, bd, rrBody, mf, d1, d2, lo, ml, ex]
  · obtain ⟨f1, f2, f3⟩ := find_let' hx h0
    have hr := hx.range
    rw [f1] at mf
    unfold dgs at mf
    have d1 : decide ((0 : Int) ≤ -1) = false := by decide
    have po := piece_of_ok d hx h0 σ
    have d2 : decide (x ≤ 0) = false := decide_eq_false (by lia)
    have ap := me_append σ (.int x) hn (by rw [List.length_map]; lia)
    rw [show acc.map V.int ++ [V.int x] = (acc ++ [x]).map .int by rw [List.map_append]; rfl] at ap
    refine ⟨σ.set n (.list ((acc ++ [x]).map .int)), some (.int (-1)), some (.int x), ?_, List.getElem?_set_self n1, by rw [List.length_set]; lia, fun j hj hne => by rw [List.getElem?_set_ne (by lia)]⟩
    generalize runF initOf tbl (d + 1) = F at *
    simp only [y_nil, y_cons, k_seq_n, k_seq_r, k_seq_c, y_asg, k_asg_s, k_end_s, y_asgA, k_asgA_s, k_asgA2_s, y_unp, k_unp_s, k_unp2_s, k_unp3_s, y_unpA, k_unpA_s, k_unpA2_s, y_aug, k_aug_s, k_aug2_s, y_augA, k_augA_s, k_augA2_s, k_augA3_s, k_augA4_s, y_ife, k_ife_t, k_ife_f, y_for, y_forT, k_for_s, y_ret, k_ret_s, y_exp, k_exp_s, y_cont, y_try, k_var_s, z_cst, z_var, z_tab, z_bin, k_bin_s, k_bin2_s, z_neg, k_neg_s, z_inv, k_inv_s, z_not, k_not_b, z_ife, k_ifE_t, k_ifE_f, k_bool_s, z_cmp, k_cmp_s, z_bop, k_bop_tt, k_bop_tf, k_bop_ft, k_bop_ff, z_attr, k_attr_s, z_sub, k_sub_s, k_sub2_s, z_slice, k_slice_s, k_slice2_s, k_slice3_s, z_rev, k_rev_s, z_list, z_tup, k_list0, k_list1, k_list6, k_tup2, k_tup3, k_tup4, z_call, k_call_s, z_new, k_new_s, k_new2_s, z_bi, k_bi_s, z_meth, k_meth_s, k_meth2_s, k_meth3_s, lst_str, z_comp, z_nil, z_cons, k_cons_s, k_cons2_s, k_tst_s, c_one, k_one_s, c_cons, k_cc_s, k_cc2_t, k_cc2_f, t_val, k_val_s, t_not, k_tnot_s, t_bop, k_tbop_tt, k_tbop_tf, k_tbop_ft, k_tbop_ff, t_cmp, k_tcmp_s, i_nil, b_add, b_sub, b_and, b_or, b_xor, u_add, u_sub, u_or, u_xor, m_eq, m_ne, m_lt, m_le, m_gt, m_ge, m_seq, m_sne, v_bool, v_int, Bool.not_true, Bool.not_false, Option.join_some, g0, g1, g2, g3, g4, g5, g6, g7, g8, g9, g10, g11, s0, s1, s2, s3, s4, s5, s6, s7, s8, s9, s10, s11, bd, rrBody, mf, d1, po, d2, lo, ap]
theorem rd_kind {c : Nat} {t : List Nat} {acc R : List Int} {w : Bool} (hc : rowCh c) (h : rd (c :: t) acc w = some R) :
    ∃ acc' w', rd t acc' w' = some R ∧ acc'.length ≤ acc.length + 9 ∧ ((∃ g, 1 ≤ g ∧ g ≤ 9 ∧ c = 48 + g ∧ w = false ∧ acc' = acc ++ List.replicate g 0 ∧ w' = true) ∨ (∃ x, CellOk x ∧ x ≠ 0 ∧ c = letC x ∧ acc' = acc ++ [x] ∧ w' = false)) := by
  rcases hc with hc | hc
  · obtain ⟨g, rfl⟩ : ∃ g, c = 48 + g := ⟨c - 48, by lia⟩
    have f := find_dig ⟨48 + g, by lia⟩ (by show 48 ≤ 48 + g; lia)
    dsimp only at f
    rw [show 48 + g - 48 = g by lia] at f
    rw [rd, f, if_pos (by lia)] at h
    split at h
    · cases h
    · rename_i hn
      rw [Int.toNat_natCast] at h
      refine ⟨_, _, h, by rw [List.length_append, List.length_replicate]; lia, .inl ⟨g, by lia, by lia, rfl, ?_, rfl, rfl⟩⟩
      cases w
      · rfl
      · exact absurd (.inr rfl) hn
  · have : ∃ x, CellOk x ∧ x ≠ 0 ∧ c = letC x := by
      simp only [List.mem_cons, List.not_mem_nil, or_false] at hc
      rcases hc with rfl | rfl | rfl | rfl | rfl | rfl | rfl | rfl | rfl | rfl | rfl | rfl
      · exact ⟨1, .inr ⟨0, 1, by lia, by lia, by lia, rfl⟩, by decide, rfl⟩
      · exact ⟨2, .inr ⟨0, 2, by lia, by lia, by lia, rfl⟩, by decide, rfl⟩
      · exact ⟨3, .inr ⟨0, 3, by lia, by lia, by lia, rfl⟩, by decide, rfl⟩
      · exact ⟨4, .inr ⟨0, 4, by lia, by lia, by lia, rfl⟩, by decide, rfl⟩
      · exact ⟨5, .inr ⟨0, 5, by lia, by lia, by lia, rfl⟩, by decide, rfl⟩
      · exact ⟨6, .inr ⟨0, 6, by lia, by lia, by lia, rfl⟩, by decide, rfl⟩
      · exact ⟨9, .inr ⟨1, 1, by lia, by lia, by lia, rfl⟩, by decide, rfl⟩
      · exact ⟨10, .inr ⟨1, 2, by lia, by lia, by lia, rfl⟩, by decide, rfl⟩
      · exact ⟨11, .inr ⟨1, 3, by lia, by lia, by lia, rfl⟩, by decide, rfl⟩
      · exact ⟨12, .inr ⟨1, 4, by lia, by lia, by lia, rfl⟩, by decide, rfl⟩
      · exact ⟨13, .inr ⟨1, 5, by lia, by lia, by lia, rfl⟩, by decide, rfl⟩
      · exact ⟨14, .inr ⟨1, 6, by lia, by lia, by lia, rfl⟩, by decide, rfl⟩
    obtain ⟨x, hx, h0, rfl⟩ := this
    rw [rd_let hx h0] at h
    exact ⟨_, _, h, by rw [List.length_append, List.length_singleton]; lia, .inr ⟨x, hx, h0, rfl, rfl, rfl⟩⟩
theorem read_row_ok (d : Nat) {cells : List Int} (hl : cells.length = 7) (hc : ∀ x ∈ cells, CellOk x) (σ : AH) :
    ∃ σ', runF initOf tbl (d + 2) 43 [.str (rowT cells 0), .int 7] σ = some (.obj σ.length, σ') ∧ Gro σ σ' ∧ σ'[σ.length]? = some (.list (cells.map .int)) := by
  have ch := rowT_ch cells 0 hc (by lia)
  have rr := rd_row cells 0 [] hc (by lia)
  have tl := rowT_len cells 0
  rw [List.replicate_zero, List.nil_append, List.nil_append] at rr
  generalize rowT cells 0 = y at *
  have asc : asciiL y = true := by
    unfold asciiL
    rw [List.all_eq_true]
    exact fun c hc => decide_eq_true (rowCh_ne (ch c hc)).2.2
  have loop := forV_str (st := stK 4) (body := bd (runF initOf tbl (d + 1)) rrBody) asc
    (fun i env S => ∃ acc w x4 x5 x6, env = [some (.str y), some (.int 7), some (.obj σ.length), some (.bool w), x4, x5, x6] ∧ rd (y.drop i) acc w = some cells ∧ acc.length ≤ 9 * i ∧ S[σ.length]? = some (.list (acc.map .int)) ∧ Gro σ S)
    (fun i env S c hci I => by
      obtain ⟨acc, w, x4, x5, x6, rfl, h1, h2, h3, h4⟩ := I
      have hi := (List.getElem?_eq_some_iff.mp hci).1
      have cm := ch c (List.mem_of_getElem? hci)
      have hd : y.drop i = c :: y.drop (i + 1) := by
        rw [List.drop_eq_getElem_cons hi]; congr 1; exact (List.getElem?_eq_some_iff.mp hci).2
      rw [hd] at h1
      obtain ⟨acc', w', k1, k2, k3⟩ := rd_kind cm h1
      obtain ⟨S', y5, y6, e, e1, e2, e3⟩ := rr_body d (x0 := some (.str y)) (x1 := some (.int 7)) (x5 := x5) (x6 := x6) h3 (by lia) k3
      exact ⟨_, rfl, .next, _, _, .inl rfl, e, _, _, _, _, _, rfl, k1, by lia, e1, ⟨Nat.le_trans h4.le e2, fun j hj => by rw [e3 j (Nat.lt_of_lt_of_le hj h4.le) (by lia)]; exact h4.same j hj⟩⟩)
    [some (.str y), some (.int 7), some (.obj σ.length), some (.bool false), none, none, none] (σ ++ [.list []]) ⟨[], false, none, none, none, rfl, rr, by simp, ap_get0 σ _, Gro.app _ _⟩
  obtain ⟨env', S, e, acc, w, x4, x5, x6, rfl, h1, h2, h3, h4⟩ := loop
  rw [List.drop_eq_nil_of_le (Nat.le_refl _), rd, Option.some.injEq] at h1
  subst h1
  unfold rrBody at e
  have bl := bi_len_l S h3 (by rw [List.length_map]; lia)
  rw [List.length_map, hl] at bl
  have dd : decide (((7 : Nat) : Int) = 7) = true := rfl
  refine ⟨S, ?_, h4, h3⟩
  refine run_ret' (fn := f_read_row) rfl rfl ?_
  show ∃ env', exSs _ _ f_read_row.body ([some (.str y), some (.int 7), none, none, none, none, none]) σ = _
  generalize runF initOf tbl (d + 1) = F at *
  simp only [y_nil, y_cons, k_seq_n, k_seq_r, k_seq_c, y_asg, k_asg_s, k_end_s, y_asgA, k_asgA_s, k_asgA2_s, y_unp, k_unp_s, k_unp2_s, k_unp3_s, y_unpA, k_unpA_s, k_unpA2_s, y_aug, k_aug_s, k_aug2_s, y_augA, k_augA_s, k_augA2_s, k_augA3_s, k_augA4_s, y_ife, k_ife_t, k_ife_f, y_for, y_forT, k_for_s, y_ret, k_ret_s, y_exp, k_exp_s, y_cont, y_try, k_var_s, z_cst, z_var, z_tab, z_bin, k_bin_s, k_bin2_s, z_neg, k_neg_s, z_inv, k_inv_s, z_not, k_not_b, z_ife, k_ifE_t, k_ifE_f, k_bool_s, z_cmp, k_cmp_s, z_bop, k_bop_tt, k_bop_tf, k_bop_ft, k_bop_ff, z_attr, k_attr_s, z_sub, k_sub_s, k_sub2_s, z_slice, k_slice_s, k_slice2_s, k_slice3_s, z_rev, k_rev_s, z_list, z_tup, k_list0, k_list1, k_list6, k_tup2, k_tup3, k_tup4, z_call, k_call_s, z_new, k_new_s, k_new2_s, z_bi, k_bi_s, z_meth, k_meth_s, k_meth2_s, k_meth3_s, lst_str, z_comp, z_nil, z_cons, k_cons_s, k_cons2_s, k_tst_s, c_one, k_one_s, c_cons, k_cc_s, k_cc2_t, k_cc2_f, t_val, k_val_s, t_not, k_tnot_s, t_bop, k_tbop_tt, k_tbop_tf, k_tbop_ft, k_tbop_ff, t_cmp, k_tcmp_s, i_nil, b_add, b_sub, b_and, b_or, b_xor, u_add, u_sub, u_or, u_xor, m_eq, m_ne, m_lt, m_le, m_gt, m_ge, m_seq, m_sne, v_bool, v_int, Bool.not_true, Bool.not_false, Option.join_some, g0, g1, g2, g3, g4, g5, g6, g7, g8, g9, g10, g11, s0, s1, s2, s3, s4, s5, s6, s7, s8, s9, s10, s11, f_read_row, e, bl, dd]
  exact ⟨_, rfl⟩
end Mine
namespace Mine
open PySem
theorem rwC_app {b : List Int} (i : Nat) : b.take (7 * i) ++ rwC b i = b.take (7 * (i + 1)) := by
  unfold rwC
  have h : (b.take (7 * i + 7)).take (7 * i) = b.take (7 * i) := by rw [List.take_take]; congr 1; lia
  rw [← h, List.take_append_drop]
  rfl
noncomputable def rbBody : ISs := .cons (.asg 6 (.call 43 (.cons (.sub (.var 3) (.bin .Sub (.bin .Sub (.var 2) (.cst (.int 1))) (.var 5))) (.cons (.var 1) (.nil))))) (.cons (.ife (.cmp (.var 6) (.one .Is (.cst .none)))
    (.cons (.raise_) (.nil)) (.nil)) (.cons (.exp (.meth .extend (.var 4) (.cons (.var 6) (.nil)))) (.nil)))
theorem m_is (n : Nat) (σ : AH) : cmpV .Is (.obj n) .none σ = some false := rfl
theorem read_board_ok (d : Nat) {b : List Int} (hl : b.length = 28) (hb : ∀ x ∈ b, CellOk x) (σ : AH) :
    ∃ σ' q, runF initOf tbl (d + 3) 44 [.str (brdT b), .int 7, .int 4] σ = some (.obj q, σ') ∧ Gro σ σ' ∧ σ'[q]? = some (.list (b.map .int)) := by
  have bl := brdT_len hl
  have sp := me_split σ (brdT b) 47 (by lia)
  rw [split_brd hl hb] at sp
  obtain ⟨S1, eS1⟩ : ∃ S1 : AH, S1 = σ ++ [AO.list ([rowT (rwC b 3) 0, rowT (rwC b 2) 0, rowT (rwC b 1) 0, rowT (rwC b 0) 0].map .str)] := ⟨_, rfl⟩
  rw [← eS1] at sp
  have E1 : Gro σ S1 := by rw [eS1]; exact Gro.app _ _
  have h1 : S1[σ.length]? = some (.list ([rowT (rwC b 3) 0, rowT (rwC b 2) 0, rowT (rwC b 1) 0, rowT (rwC b 0) 0].map .str)) := by rw [eS1, ap_get0]; rfl
  have L1 : S1.length = σ.length + 1 := by rw [eS1]; simp
  have ln := bi_len_l S1 h1 (by simp)
  obtain ⟨S2, eS2⟩ : ∃ S2 : AH, S2 = S1 ++ [AO.list []] := ⟨_, rfl⟩
  have E2 : Gro S1 S2 := by rw [eS2]; exact Gro.app _ _
  have h2 : S2[S1.length]? = some (.list []) := by rw [eS2, ap_get0]; rfl
  have loop := forV_r0 (st := stK 5) (body := bd (runF initOf tbl (d + 2)) rbBody) 4 (by lia)
    (fun i env S => (∃ x5 x6, env = [some (.str (brdT b)), some (.int 7), some (.int 4), some (.obj σ.length), some (.obj S1.length), x5, x6]) ∧ Gro S1 S ∧ S[S1.length]? = some (.list ((b.take (7 * i)).map .int)))
    (fun i env S hi I => by
      obtain ⟨⟨x5, x6, rfl⟩, E, hS⟩ := I
      have s1 : subV (.obj σ.length) (.int ((3 - i : Nat) : Int)) S = some (.str (rowT (rwC b i) 0)) := sub_l S (E.get h1) (by
        rcases (by lia : i = 0 ∨ i = 1 ∨ i = 2 ∨ i = 3) with rfl | rfl | rfl | rfl <;> rfl) (by lia)
      have ci : (4 : Int) - 1 - (i : Int) = ((3 - i : Nat) : Int) := by lia
      obtain ⟨S', r1, r2, r3⟩ := read_row_ok d (rwC_len hl hi) (fun x hx => hb x (rwC_mem hx)) S
      have lt := (List.getElem?_eq_some_iff.mp hS).1
      have lt3 := (List.getElem?_eq_some_iff.mp r3).1
      have ex := me_extend (r2.get hS) r3 (by lia) (by rw [List.length_map, List.length_take]; lia) (by rw [List.length_map, rwC_len hl hi]; lia)
      rw [← List.map_append, rwC_app] at ex
      have lo := lst_obj S' (r2.get hS)
      refine ⟨_, rfl, .next, [some (.str (brdT b)), some (.int 7), some (.int 4), some (.obj σ.length), some (.obj S1.length), some (.int (i : Int)), some (.obj S.length)], S'.set S1.length (.list ((b.take (7 * (i + 1))).map .int)), .inl rfl, ?_, ⟨_, _, rfl⟩, (E.trans r2).setNew (Nat.le_refl _) _, List.getElem?_set_self (by have := r2.le; lia)⟩
      generalize runF initOf tbl (d + 2) = F at *
      simp only [y_nil, y_cons, k_seq_n, k_seq_r, k_seq_c, y_asg, k_asg_s, k_end_s, y_asgA, k_asgA_s, k_asgA2_s, y_unp, k_unp_s, k_unp2_s, k_unp3_s, y_unpA, k_unpA_s, k_unpA2_s, y_aug, k_aug_s, k_aug2_s, y_augA, k_augA_s, k_augA2_s, k_augA3_s, k_augA4_s, y_ife, k_ife_t, k_ife_f, y_for, y_forT, k_for_s, y_ret, k_ret_s, y_exp, k_exp_s, y_cont, y_try, k_var_s, z_cst, z_var, z_tab, z_bin, k_bin_s, k_bin2_s, z_neg, k_neg_s, z_inv, k_inv_s, z_not, k_not_b, z_ife, k_ifE_t, k_ifE_f, k_bool_s, z_cmp, k_cmp_s, z_bop, k_bop_tt, k_bop_tf, k_bop_ft, k_bop_ff, z_attr, k_attr_s, z_sub, k_sub_s, k_sub2_s, z_slice, k_slice_s, k_slice2_s, k_slice3_s, z_rev, k_rev_s, z_list, z_tup, k_list0, k_list1, k_list6, k_tup2, k_tup3, k_tup4, z_call, k_call_s, z_new, k_new_s, k_new2_s, z_bi, k_bi_s, z_meth, k_meth_s, k_meth2_s, k_meth3_s, lst_str, z_comp, z_nil, z_cons, k_cons_s, k_cons2_s, k_tst_s, c_one, k_one_s, c_cons, k_cc_s, k_cc2_t, k_cc2_f, t_val, k_val_s, t_not, k_tnot_s, t_bop, k_tbop_tt, k_tbop_tf, k_tbop_ft, k_tbop_ff, t_cmp, k_tcmp_s, i_nil, b_add, b_sub, b_and, b_or, b_xor, u_add, u_sub, u_or, u_xor, m_eq, m_ne, m_lt, m_le, m_gt, m_ge, m_seq, m_sne, v_bool, v_int, Bool.not_true, Bool.not_false, Option.join_some, g0, g1, g2, g3, g4, g5, g6, g7, g8, g9, g10, g11, s0, s1, s2, s3, s4, s5, s6, s7, s8, s9, s10, s11, bd, rbBody, ci, s1, r1, m_is, lo, ex])
    [some (.str (brdT b)), some (.int 7), some (.int 4), some (.obj σ.length), some (.obj S1.length), none, none] S2 ⟨⟨_, _, rfl⟩, E2, h2⟩
  obtain ⟨env', S, e, ⟨x5, x6, rfl⟩, E, hS⟩ := loop
  rw [List.take_of_length_le (by lia)] at hS
  have d1 : decide ((([rowT (rwC b 3) 0, rowT (rwC b 2) 0, rowT (rwC b 1) 0, rowT (rwC b 0) 0].map V.str).length : Int) = 4) = true := rfl
  have br : biV .range [.int 4] S2 = some (.range 0 ((4 : Nat) : Int) 1, S2) := bi_range S2 (n := 4) (by lia)
  unfold rbBody at e
  rw [eS2] at br e
  refine ⟨S, S1.length, ?_, E1.trans E, hS⟩
  refine run_ret' (fn := f_read_board) rfl rfl ?_
  show ∃ env', exSs _ _ f_read_board.body ([some (.str (brdT b)), some (.int 7), some (.int 4), none, none, none, none]) σ = _
  generalize runF initOf tbl (d + 2) = F at *
  simp only [y_nil, y_cons, k_seq_n, k_seq_r, k_seq_c, y_asg, k_asg_s, k_end_s, y_asgA, k_asgA_s, k_asgA2_s, y_unp, k_unp_s, k_unp2_s, k_unp3_s, y_unpA, k_unpA_s, k_unpA2_s, y_aug, k_aug_s, k_aug2_s, y_augA, k_augA_s, k_augA2_s, k_augA3_s, k_augA4_s, y_ife, k_ife_t, k_ife_f, y_for, y_forT, k_for_s, y_ret, k_ret_s, y_exp, k_exp_s, y_cont, y_try, k_var_s, z_cst, z_var, z_tab, z_bin, k_bin_s, k_bin2_s, z_neg, k_neg_s, z_inv, k_inv_s, z_not, k_not_b, z_ife, k_ifE_t, k_ifE_f, k_bool_s, z_cmp, k_cmp_s, z_bop, k_bop_tt, k_bop_tf, k_bop_ft, k_bop_ff, z_attr, k_attr_s, z_sub, k_sub_s, k_sub2_s, z_slice, k_slice_s, k_slice2_s, k_slice3_s, z_rev, k_rev_s, z_list, z_tup, k_list0, k_list1, k_list6, k_tup2, k_tup3, k_tup4, z_call, k_call_s, z_new, k_new_s, k_new2_s, z_bi, k_bi_s, z_meth, k_meth_s, k_meth2_s, k_meth3_s, lst_str, z_comp, z_nil, z_cons, k_cons_s, k_cons2_s, k_tst_s, c_one, k_one_s, c_cons, k_cc_s, k_cc2_t, k_cc2_f, t_val, k_val_s, t_not, k_tnot_s, t_bop, k_tbop_tt, k_tbop_tf, k_tbop_ft, k_tbop_ff, t_cmp, k_tcmp_s, i_nil, b_add, b_sub, b_and, b_or, b_xor, u_add, u_sub, u_or, u_xor, m_eq, m_ne, m_lt, m_le, m_gt, m_ge, m_seq, m_sne, v_bool, v_int, Bool.not_true, Bool.not_false, Option.join_some, g0, g1, g2, g3, g4, g5, g6, g7, g8, g9, g10, g11, s0, s1, s2, s3, s4, s5, s6, s7, s8, s9, s10, s11, f_read_board, sp, ln, d1, br, e]
  exact ⟨_, rfl⟩
theorem read_fields_ok (d : Nat) {σ : AH} (G : Geo σ) {b : List Int} (hl : b.length = 28) (hb : ∀ x ∈ b, CellOk x) {s r n : Nat} (hs : s < 2) (hr : r < 16) {t5 t6 : List Nat} (hn : σ[n]? = some (.list ([brdT b, sideT (s : Int), rgtT r, [45], t5, t6].map .str))) :
    ∃ σ' q, runF initOf tbl (d + 4) 49 [.obj n, .obj 21] σ = some (.tup [.obj q, .int (s : Int), .int (r : Int), .int (-1)], σ') ∧ Gro σ σ' ∧ σ'[q]? = some (.list (b.map .int)) := by
  obtain ⟨gfs, e21, e7, e4, _⟩ := geo21 G
  obtain ⟨S, q, r1, E, r3⟩ := read_board_ok d hl hb σ
  have a0 := attr_i (a := 0) σ e21 e7
  have a1 := attr_i (a := 1) σ e21 e4
  have b0 := attr_i (a := 0) S (E.get e21) e7
  have b1 := attr_i (a := 1) S (E.get e21) e4
  have u0 : subV (.obj n) (.int 0) σ = some (.str (brdT b)) := sub_l (i := 0) σ hn rfl (by lia)
  have u1 : subV (.obj n) (.int 1) S = some (.str (sideT (s : Int))) := sub_l (i := 1) S (E.get hn) rfl (by lia)
  have u2 : subV (.obj n) (.int 2) S = some (.str (rgtT r)) := sub_l (i := 2) S (E.get hn) rfl (by lia)
  have u3 : subV (.obj n) (.int 3) S = some (.str [45]) := sub_l (i := 3) S (E.get hn) rfl (by lia)
  have c1 := read_side_ok (d + 2) S s hs
  have c2 := read_rights_ok (d + 2) S r hr
  have c3 := read_ep_ok (d + 2) S
  refine ⟨S, q, ?_, E, r3⟩
  refine run_ret' (fn := f_read_fields) rfl rfl ?_
  show ∃ env', exSs _ _ f_read_fields.body ([some (.obj n), some (.obj 21), none, none, none]) σ = _
  generalize runF initOf tbl (d + 3) = F at *
  simp only [y_nil, y_cons, k_seq_n, k_seq_r, k_seq_c, y_asg, k_asg_s, k_end_s, y_asgA, k_asgA_s, k_asgA2_s, y_unp, k_unp_s, k_unp2_s, k_unp3_s, y_unpA, k_unpA_s, k_unpA2_s, y_aug, k_aug_s, k_aug2_s, y_augA, k_augA_s, k_augA2_s, k_augA3_s, k_augA4_s, y_ife, k_ife_t, k_ife_f, y_for, y_forT, k_for_s, y_ret, k_ret_s, y_exp, k_exp_s, y_cont, y_try, k_var_s, z_cst, z_var, z_tab, z_bin, k_bin_s, k_bin2_s, z_neg, k_neg_s, z_inv, k_inv_s, z_not, k_not_b, z_ife, k_ifE_t, k_ifE_f, k_bool_s, z_cmp, k_cmp_s, z_bop, k_bop_tt, k_bop_tf, k_bop_ft, k_bop_ff, z_attr, k_attr_s, z_sub, k_sub_s, k_sub2_s, z_slice, k_slice_s, k_slice2_s, k_slice3_s, z_rev, k_rev_s, z_list, z_tup, k_list0, k_list1, k_list6, k_tup2, k_tup3, k_tup4, z_call, k_call_s, z_new, k_new_s, k_new2_s, z_bi, k_bi_s, z_meth, k_meth_s, k_meth2_s, k_meth3_s, lst_str, z_comp, z_nil, z_cons, k_cons_s, k_cons2_s, k_tst_s, c_one, k_one_s, c_cons, k_cc_s, k_cc2_t, k_cc2_f, t_val, k_val_s, t_not, k_tnot_s, t_bop, k_tbop_tt, k_tbop_tf, k_tbop_ft, k_tbop_ff, t_cmp, k_tcmp_s, i_nil, b_add, b_sub, b_and, b_or, b_xor, u_add, u_sub, u_or, u_xor, m_eq, m_ne, m_lt, m_le, m_gt, m_ge, m_seq, m_sne, v_bool, v_int, Bool.not_true, Bool.not_false, Option.join_some, g0, g1, g2, g3, g4, g5, g6, g7, g8, g9, g10, g11, s0, s1, s2, s3, s4, s5, s6, s7, s8, s9, s10, s11, f_read_fields, a0, a1, b0, b1, u0, u1, u2, u3, r1, c1, c2, c3]
  exact ⟨_, rfl⟩
end Mine
namespace Mine
open PySem
section
variable {st : V → LE → Option LE} {body : LE → AH → Option (Fl × LE × AH)}
theorem forV_tup {vs : List V} (Inv : Nat → LE → AH → Prop)
    (hit : ∀ i env σ v, vs[i]? = some v → Inv i env σ → ∃ env1, st v env = some env1 ∧ ∃ f env2 σ2, (f = .next ∨ f = .cont) ∧ body env1 σ = some (f, env2, σ2) ∧ Inv (i + 1) env2 σ2) (env : LE) (σ : AH) (I : Inv 0 env σ) :
    ∃ env' σ', forV st body (.tup vs) env σ = some (.next, env', σ') ∧ Inv vs.length env' σ' := by
  unfold forV
  have h0 : lenIt (.tup vs) σ = some vs.length := rfl
  rw [h0, Option.bind_some]
  refine forN_inv Inv vs.length (fun i env σ hi I => ?_) (fun env σ I => ?_) (vs.length + 1) 0 env σ (by lia) (by lia) I
  · refine ⟨vs[i], ?_, hit i env σ _ (List.getElem?_eq_getElem hi) I⟩
    rw [it_t, List.getElem?_eq_getElem hi]
  · rw [it_t, List.getElem?_eq_none (Nat.le_refl _)]
end
theorem pieces_ok (d : Nat) {σ : AH} {p : Nat} {P : Pz} (H : PosAt σ p P) (HK : KingsAt P.b) {s : Nat} (hs : s < 2) : runF initOf tbl (d + 1) 27 [.obj p, .int (s : Int), .int 6] σ = some (.int ((2 ^ sqN s : Nat) : Int), σ) := by
  have h1 := H.obj
  unfold posFs at h1
  have p21 := attr_i (a := 21) σ h1 rfl
  have p22 := attr_i (a := 22) σ h1 rfl
  have e1 := side_at H hs
  have e2 : subV (.obj (p + 4)) (.int 6) σ = some (.int ((Kb P.b 6 : Nat) : Int)) := kind_at H (k := 6) (by lia)
  have kb := king_bits HK hs
  refine run_ret' (fn := f_pieces) rfl rfl ?_
  show ∃ env', exSs _ _ f_pieces.body ([some (.obj p), some (.int (s : Int)), some (.int 6)]) σ = _
  generalize runF initOf tbl d = F at *
  simp only [y_nil, y_cons, k_seq_n, k_seq_r, k_seq_c, y_asg, k_asg_s, k_end_s, y_asgA, k_asgA_s, k_asgA2_s, y_unp, k_unp_s, k_unp2_s, k_unp3_s, y_unpA, k_unpA_s, k_unpA2_s, y_aug, k_aug_s, k_aug2_s, y_augA, k_augA_s, k_augA2_s, k_augA3_s, k_augA4_s, y_ife, k_ife_t, k_ife_f, y_for, y_forT, k_for_s, y_ret, k_ret_s, y_exp, k_exp_s, y_cont, y_try, k_var_s, z_cst, z_var, z_tab, z_bin, k_bin_s, k_bin2_s, z_neg, k_neg_s, z_inv, k_inv_s, z_not, k_not_b, z_ife, k_ifE_t, k_ifE_f, k_bool_s, z_cmp, k_cmp_s, z_bop, k_bop_tt, k_bop_tf, k_bop_ft, k_bop_ff, z_attr, k_attr_s, z_sub, k_sub_s, k_sub2_s, z_slice, k_slice_s, k_slice2_s, k_slice3_s, z_rev, k_rev_s, z_list, z_tup, k_list0, k_list1, k_list6, k_tup2, k_tup3, k_tup4, z_call, k_call_s, z_new, k_new_s, k_new2_s, z_bi, k_bi_s, z_meth, k_meth_s, k_meth2_s, k_meth3_s, lst_str, z_comp, z_nil, z_cons, k_cons_s, k_cons2_s, k_tst_s, c_one, k_one_s, c_cons, k_cc_s, k_cc2_t, k_cc2_f, t_val, k_val_s, t_not, k_tnot_s, t_bop, k_tbop_tt, k_tbop_tf, k_tbop_ft, k_tbop_ff, t_cmp, k_tcmp_s, i_nil, b_add, b_sub, b_and, b_or, b_xor, u_add, u_sub, u_or, u_xor, m_eq, m_ne, m_lt, m_le, m_gt, m_ge, m_seq, m_sne, v_bool, v_int, Bool.not_true, Bool.not_false, Option.join_some, g0, g1, g2, g3, g4, g5, g6, g7, g8, g9, g10, g11, s0, s1, s2, s3, s4, s5, s6, s7, s8, s9, s10, s11, f_pieces, p21, p22, e1, e2, and_nn, kb]
  exact ⟨_, rfl⟩
theorem more_ok (d : Nat) (σ : AH) : ∀ s : Nat, s < 2 → runF initOf tbl (d + 1) 18 [.int ((2 ^ sqN s : Nat) : Int)] σ = some (.bool false, σ)
  | 0, _ => by kernel_rfl
  | 1, _ => by kernel_rfl
  | n + 2, h => absurd h (by lia)
theorem sq_ne (s : Nat) : decide (((2 ^ sqN s : Nat) : Int) = 0) = false := decide_eq_false (by have := Nat.two_pow_pos (sqN s); lia)
noncomputable def ckBody : ISs := .cons (.asg 2 (.call 27 (.cons (.var 0) (.cons (.var 1) (.cons (.cst (.int 6)) (.nil)))))) (.cons (.ife (.cmp (.var 2) (.one .Eq (.cst (.int 0))))
    (.cons (.raise_) (.nil)) (.nil)) (.cons (.ife (.val (.call 18 (.cons (.var 2) (.nil)))) (.cons (.raise_) (.nil)) (.nil)) (.nil)))
theorem check_kings_ok (d : Nat) {σ : AH} {p : Nat} {P : Pz} (H : PosAt σ p P) (HK : KingsAt P.b) : runF initOf tbl (d + 2) 31 [.obj p] σ = some (.none, σ) := by
  have loop := forV_tup (st := stK 1) (body := bd (runF initOf tbl (d + 1)) ckBody) (vs := [.int 0, .int 1])
    (fun i env S => S = σ ∧ ∃ x1 x2, env = [some (.obj p), x1, x2])
    (fun i env S v hv I => by
      obtain ⟨rfl, x1, x2, rfl⟩ := I
      have : ∃ s : Nat, s < 2 ∧ v = .int (s : Int) := by
        have := List.mem_of_getElem? hv
        simp only [List.mem_cons, List.not_mem_nil, or_false] at this
        rcases this with rfl | rfl
        · exact ⟨0, by lia, rfl⟩
        · exact ⟨1, by lia, rfl⟩
      obtain ⟨s, hs, rfl⟩ := this
      have e1 := pieces_ok d H HK hs
      have e2 := more_ok d S s hs
      have e3 := sq_ne s
      refine ⟨_, rfl, .next, [some (.obj p), some (.int (s : Int)), some (.int ((2 ^ sqN s : Nat) : Int))], S, .inl rfl, ?_, rfl, _, _, rfl⟩
      generalize runF initOf tbl (d + 1) = F at *
      simp only [y_nil, y_cons, k_seq_n, k_seq_r, k_seq_c, y_asg, k_asg_s, k_end_s, y_asgA, k_asgA_s, k_asgA2_s, y_unp, k_unp_s, k_unp2_s, k_unp3_s, y_unpA, k_unpA_s, k_unpA2_s, y_aug, k_aug_s, k_aug2_s, y_augA, k_augA_s, k_augA2_s, k_augA3_s, k_augA4_s, y_ife, k_ife_t, k_ife_f, y_for, y_forT, k_for_s, y_ret, k_ret_s, y_exp, k_exp_s, y_cont, y_try, k_var_s, z_cst, z_var, z_tab, z_bin, k_bin_s, k_bin2_s, z_neg, k_neg_s, z_inv, k_inv_s, z_not, k_not_b, z_ife, k_ifE_t, k_ifE_f, k_bool_s, z_cmp, k_cmp_s, z_bop, k_bop_tt, k_bop_tf, k_bop_ft, k_bop_ff, z_attr, k_attr_s, z_sub, k_sub_s, k_sub2_s, z_slice, k_slice_s, k_slice2_s, k_slice3_s, z_rev, k_rev_s, z_list, z_tup, k_list0, k_list1, k_list6, k_tup2, k_tup3, k_tup4, z_call, k_call_s, z_new, k_new_s, k_new2_s, z_bi, k_bi_s, z_meth, k_meth_s, k_meth2_s, k_meth3_s, lst_str, z_comp, z_nil, z_cons, k_cons_s, k_cons2_s, k_tst_s, c_one, k_one_s, c_cons, k_cc_s, k_cc2_t, k_cc2_f, t_val, k_val_s, t_not, k_tnot_s, t_bop, k_tbop_tt, k_tbop_tf, k_tbop_ft, k_tbop_ff, t_cmp, k_tcmp_s, i_nil, b_add, b_sub, b_and, b_or, b_xor, u_add, u_sub, u_or, u_xor, m_eq, m_ne, m_lt, m_le, m_gt, m_ge, m_seq, m_sne, v_bool, v_int, Bool.not_true, Bool.not_false, Option.join_some, g0, g1, g2, g3, g4, g5, g6, g7, g8, g9, g10, g11, s0, s1, s2, s3, s4, s5, s6, s7, s8, s9, s10, s11, bd, ckBody, e1, e2, e3])
    [some (.obj p), none, none] σ ⟨rfl, none, none, rfl⟩
  obtain ⟨env', S, e, rfl, x1, x2, rfl⟩ := loop
  unfold ckBody at e
  refine run_next' (fn := f_check_kings) rfl rfl ?_
  show ∃ env', exSs _ _ f_check_kings.body ([some (.obj p), none, none]) S = _
  generalize runF initOf tbl (d + 1) = F at *
  simp only [y_nil, y_cons, k_seq_n, k_seq_r, k_seq_c, y_asg, k_asg_s, k_end_s, y_asgA, k_asgA_s, k_asgA2_s, y_unp, k_unp_s, k_unp2_s, k_unp3_s, y_unpA, k_unpA_s, k_unpA2_s, y_aug, k_aug_s, k_aug2_s, y_augA, k_augA_s, k_augA2_s, k_augA3_s, k_augA4_s, y_ife, k_ife_t, k_ife_f, y_for, y_forT, k_for_s, y_ret, k_ret_s, y_exp, k_exp_s, y_cont, y_try, k_var_s, z_cst, z_var, z_tab, z_bin, k_bin_s, k_bin2_s, z_neg, k_neg_s, z_inv, k_inv_s, z_not, k_not_b, z_ife, k_ifE_t, k_ifE_f, k_bool_s, z_cmp, k_cmp_s, z_bop, k_bop_tt, k_bop_tf, k_bop_ft, k_bop_ff, z_attr, k_attr_s, z_sub, k_sub_s, k_sub2_s, z_slice, k_slice_s, k_slice2_s, k_slice3_s, z_rev, k_rev_s, z_list, z_tup, k_list0, k_list1, k_list6, k_tup2, k_tup3, k_tup4, z_call, k_call_s, z_new, k_new_s, k_new2_s, z_bi, k_bi_s, z_meth, k_meth_s, k_meth2_s, k_meth3_s, lst_str, z_comp, z_nil, z_cons, k_cons_s, k_cons2_s, k_tst_s, c_one, k_one_s, c_cons, k_cc_s, k_cc2_t, k_cc2_f, t_val, k_val_s, t_not, k_tnot_s, t_bop, k_tbop_tt, k_tbop_tf, k_tbop_ft, k_tbop_ff, t_cmp, k_tcmp_s, i_nil, b_add, b_sub, b_and, b_or, b_xor, u_add, u_sub, u_or, u_xor, m_eq, m_ne, m_lt, m_le, m_gt, m_ge, m_seq, m_sne, v_bool, v_int, Bool.not_true, Bool.not_false, Option.join_some, g0, g1, g2, g3, g4, g5, g6, g7, g8, g9, g10, g11, s0, s1, s2, s3, s4, s5, s6, s7, s8, s9, s10, s11, f_check_kings, e]
  exact ⟨_, rfl⟩
theorem masks : natOk 23 0 = true ∧ natOk 23 3 = true ∧ ∀ i : Fin 28, (natAt 23 0 ||| natAt 23 3).testBit i.val = true → i.val < 7 ∨ 21 ≤ i.val := by decide +kernel
theorem pawn_bits {b : List Int} {r : Nat} (H : BrdOk b r) : Kb b 1 &&& (natAt 23 0 ||| natAt 23 3) = 0 := by
  apply Nat.eq_of_testBit_eq
  intro i
  rw [Nat.testBit_and, Nat.zero_testBit]
  unfold Kb
  rw [bits_test]
  cases e : b[i]? with
  | none => rfl
  | some x =>
    have hi : i < 28 := by rw [← H.kings.len]; exact (List.getElem?_eq_some_iff.mp e).1
    simp only [Option.map_some, Option.getD_some]
    cases q : isK ((1 : Nat) : Int) x with
    | false => rfl
    | true =>
      rw [Bool.true_and]
      cases q2 : (natAt 23 0 ||| natAt 23 3).testBit i with
      | false => rfl
      | true =>
        have m := masks.2.2 ⟨i, hi⟩ q2
        dsimp only at m
        have hx : x = 1 ∨ x = 9 := by
          rcases H.kings.cell x (List.mem_of_getElem? e) with rfl | ⟨sd, k, h1, h2, h3, rfl⟩
          · rw [isK_zero] at q; cases q
          · rw [isK_piece _ _ _ h1 ⟨h2, h3⟩, decide_eq_true_eq] at q; lia
        have := H.pawn i x e hx
        lia
theorem check_pawns_ok (d : Nat) {σ : AH} {p : Nat} {P : Pz} {r : Nat} (G : Geo σ) (H : PosAt σ p P) (HB : BrdOk P.b r) : runF initOf tbl (d + 1) 32 [.obj p] σ = some (.none, σ) := by
  have h1 := H.obj
  unfold posFs at h1
  have p21 := attr_i (a := 21) σ h1 rfl
  have p18 := attr_i (a := 18) σ h1 rfl
  obtain ⟨fs, g21, _, _, _, f7, _⟩ := geoFs G
  obtain ⟨gfs, e21, _, e4, _⟩ := geo21 G
  have a7 := attr_i (a := 7) σ g21 f7
  have a1 := attr_i (a := 1) σ e21 e4
  have k1 : subV (.obj (p + 4)) (.int 1) σ = some (.int ((Kb P.b 1 : Nat) : Int)) := kind_at H (k := 1) (by lia)
  have m0 : subV (.obj 23) (.int 0) σ = some (.int ((natAt 23 0 : Nat) : Int)) := nat_at (i := 0) G masks.1 (by lia)
  have m3 := nat_at (i := 3) G masks.2.1 (by lia)
  have c3 : (4 : Int) - 1 = ((3 : Nat) : Int) := rfl
  have pb := pawn_bits HB
  have dd : decide (((0 : Nat) : Int) = 0) = true := rfl
  refine run_next' (fn := f_check_pawns) rfl rfl ?_
  show ∃ env', exSs _ _ f_check_pawns.body ([some (.obj p), none, none]) σ = _
  generalize runF initOf tbl d = F at *
  simp only [y_nil, y_cons, k_seq_n, k_seq_r, k_seq_c, y_asg, k_asg_s, k_end_s, y_asgA, k_asgA_s, k_asgA2_s, y_unp, k_unp_s, k_unp2_s, k_unp3_s, y_unpA, k_unpA_s, k_unpA2_s, y_aug, k_aug_s, k_aug2_s, y_augA, k_augA_s, k_augA2_s, k_augA3_s, k_augA4_s, y_ife, k_ife_t, k_ife_f, y_for, y_forT, k_for_s, y_ret, k_ret_s, y_exp, k_exp_s, y_cont, y_try, k_var_s, z_cst, z_var, z_tab, z_bin, k_bin_s, k_bin2_s, z_neg, k_neg_s, z_inv, k_inv_s, z_not, k_not_b, z_ife, k_ifE_t, k_ifE_f, k_bool_s, z_cmp, k_cmp_s, z_bop, k_bop_tt, k_bop_tf, k_bop_ft, k_bop_ff, z_attr, k_attr_s, z_sub, k_sub_s, k_sub2_s, z_slice, k_slice_s, k_slice2_s, k_slice3_s, z_rev, k_rev_s, z_list, z_tup, k_list0, k_list1, k_list6, k_tup2, k_tup3, k_tup4, z_call, k_call_s, z_new, k_new_s, k_new2_s, z_bi, k_bi_s, z_meth, k_meth_s, k_meth2_s, k_meth3_s, lst_str, z_comp, z_nil, z_cons, k_cons_s, k_cons2_s, k_tst_s, c_one, k_one_s, c_cons, k_cc_s, k_cc2_t, k_cc2_f, t_val, k_val_s, t_not, k_tnot_s, t_bop, k_tbop_tt, k_tbop_tf, k_tbop_ft, k_tbop_ff, t_cmp, k_tcmp_s, i_nil, b_add, b_sub, b_and, b_or, b_xor, u_add, u_sub, u_or, u_xor, m_eq, m_ne, m_lt, m_le, m_gt, m_ge, m_seq, m_sne, v_bool, v_int, Bool.not_true, Bool.not_false, Option.join_some, g0, g1, g2, g3, g4, g5, g6, g7, g8, g9, g10, g11, s0, s1, s2, s3, s4, s5, s6, s7, s8, s9, s10, s11, f_check_pawns, p21, p18, a7, a1, k1, m0, c3, m3, or_nn, and_nn, pb, dd]
  exact ⟨_, rfl⟩
noncomputable def crBody : ISs := .cons (.ife (.cmp (.bin .BitAnd
    (.attr (.var 0) 16) (.bin .LShift (.cst (.int 1)) (.var 1))) (.one .Eq (.cst (.int 0)))) (.cons (.cont) (.nil)) (.nil)) (.cons (.asg 2 (.sub (.attr (.attr (.var 0) 18) 12) (.var 1))) (.cons (.ife (.cmp (.var 2) (.one .Is (.cst
    .none))) (.cons (.raise_) (.nil)) (.nil)) (.cons (.ife (.cmp (.sub (.attr (.var 0) 20) (.sub (.var 2) (.cst (.int 0)))) (.one .NotEq (.call 0 (.cons (.bin .RShift (.var 1) (.cst (.int 1))) (.cons (.cst (.int 6)) (.nil))))))
    (.cons (.raise_) (.nil)) (.nil)) (.cons (.ife (.cmp (.sub (.attr (.var 0) 20) (.sub (.var 2) (.cst (.int 2)))) (.one .NotEq (.call 0 (.cons (.bin .RShift (.var 1) (.cst (.int 1))) (.cons (.cst (.int 4)) (.nil)))))) (.cons
    (.raise_) (.nil)) (.nil)) (.nil)))))
theorem castle_at {σ : AH} (G : Geo σ) {i : Nat} (hi : i < 4) : ∃ a b, subV (.obj 30) (.int (i : Int)) σ = some (.tup [.int ((sqN (i / 2) : Nat) : Int), a, .int ((crn i : Nat) : Int), b]) := by
  have g : σ[30]? = some (.list [.tup [.int 3, .int 5, .int 6, .int 4], .tup [.int 3, .int 1, .int 0, .int 2], .tup [.int 24, .int 26, .int 27, .int 25], .tup [.int 24, .int 22, .int 21, .int 23]]) := G 28 (by decide)
  rcases (by lia : i = 0 ∨ i = 1 ∨ i = 2 ∨ i = 3) with rfl | rfl | rfl | rfl
  · exact ⟨_, _, sub_l (i := 0) σ g rfl (by lia)⟩
  · exact ⟨_, _, sub_l (i := 1) σ g rfl (by lia)⟩
  · exact ⟨_, _, sub_l (i := 2) σ g rfl (by lia)⟩
  · exact ⟨_, _, sub_l (i := 3) σ g rfl (by lia)⟩
theorem brd_at {σ : AH} {p : Nat} {P : Pz} (H : PosAt σ p P) {i : Nat} {x : Int} (e : P.b[i]? = some x) (hi : i < 2000) : subV (.obj (p + 2)) (.int (i : Int)) σ = some (.int x) :=
  sub_l σ H.board (by rw [List.getElem?_map, e]; rfl) hi
theorem cr_body (d : Nat) {σ : AH} {p : Nat} {P : Pz} {r i : Nat} (G : Geo σ) (H : PosAt σ p P) (HB : BrdOk P.b r) (hr : P.rights = (r : Int)) (hi : i < 4) (x2 : Option V) :
    ∃ f y2, (f = .next ∨ f = .cont) ∧ bd (runF initOf tbl (d + 1)) crBody [some (.obj p), some (.int (i : Int)), x2] σ = some (f, [some (.obj p), some (.int (i : Int)), y2], σ) := by
  have h1 := H.obj
  unfold posFs at h1
  have p18 := attr_i (a := 18) σ h1 rfl
  have p20 := attr_i (a := 20) σ h1 rfl
  have p16 := attr_i (a := 16) σ h1 rfl
  rw [hr] at p16
  obtain ⟨fs, g21, _, _, _, _, f12⟩ := geoFs G
  have a12 := attr_i (a := 12) σ g21 f12
  have sh := b_shl σ (a := 1) (n := i) ⟨by lia, by decide⟩
  rw [show (1 : Int) * (2 : Int) ^ i = ((2 ^ i : Nat) : Int) by rw [pow_c]; lia] at sh
  have ba := bit_and i r
  rw [Nat.and_comm] at ba
  cases ht : r.testBit i with
  | false =>
    rw [ht] at ba
    have dd : decide (((r &&& 2 ^ i : Nat) : Int) = 0) = true := decide_eq_true (by rw [ba]; rfl)
    refine ⟨.cont, x2, .inr rfl, ?_⟩
    generalize runF initOf tbl (d + 1) = F at *
    simp only [y_nil, y_cons, k_seq_n, k_seq_r, k_seq_c, y_asg, k_asg_s, k_end_s, y_asgA, k_asgA_s, k_asgA2_s, y_unp, k_unp_s, k_unp2_s, k_unp3_s, y_unpA, k_unpA_s, k_unpA2_s, y_aug, k_aug_s, k_aug2_s, y_augA, k_augA_s, k_augA2_s, k_augA3_s, k_augA4_s, y_ife, k_ife_t, k_ife_f, y_for, y_forT, k_for_s, y_ret, k_ret_s, y_exp, k_exp_s, y_cont, y_try, k_var_s, z_cst, z_var, z_tab, z_bin, k_bin_s, k_bin2_s, z_neg, k_neg_s, z_inv, k_inv_s, z_not, k_not_b, z_ife, k_ifE_t, k_ifE_f, k_bool_s, z_cmp, k_cmp_s, z_bop, k_bop_tt, k_bop_tf, k_bop_ft, k_bop_ff, z_attr, k_attr_s, z_sub, k_sub_s, k_sub2_s, z_slice, k_slice_s, k_slice2_s, k_slice3_s, z_rev, k_rev_s, z_list, z_tup, k_list0, k_list1, k_list6, k_tup2, k_tup3, k_tup4, z_call, k_call_s, z_new, k_new_s, k_new2_s, z_bi, k_bi_s, z_meth, k_meth_s, k_meth2_s, k_meth3_s, lst_str, z_comp, z_nil, z_cons, k_cons_s, k_cons2_s, k_tst_s, c_one, k_one_s, c_cons, k_cc_s, k_cc2_t, k_cc2_f, t_val, k_val_s, t_not, k_tnot_s, t_bop, k_tbop_tt, k_tbop_tf, k_tbop_ft, k_tbop_ff, t_cmp, k_tcmp_s, i_nil, b_add, b_sub, b_and, b_or, b_xor, u_add, u_sub, u_or, u_xor, m_eq, m_ne, m_lt, m_le, m_gt, m_ge, m_seq, m_sne, v_bool, v_int, Bool.not_true, Bool.not_false, Option.join_some, g0, g1, g2, g3, g4, g5, g6, g7, g8, g9, g10, g11, s0, s1, s2, s3, s4, s5, s6, s7, s8, s9, s10, s11, bd, crBody, p16, sh, and_nn, dd]
  | true =>
    rw [ht] at ba
    have dd : decide (((r &&& 2 ^ i : Nat) : Int) = 0) = false := decide_eq_false (by rw [ba, if_pos rfl]; have := Nat.two_pow_pos i; lia)
    obtain ⟨a, b, ca⟩ := castle_at G hi
    have isn : cmpV .Is (.tup [.int ((sqN (i / 2) : Nat) : Int), a, .int ((crn i : Nat) : Int), b]) .none σ = some false := rfl
    have t0 : subV (.tup [.int ((sqN (i / 2) : Nat) : Int), a, .int ((crn i : Nat) : Int), b]) (.int 0) σ = some (.int ((sqN (i / 2) : Nat) : Int)) := sub_t (i := 0) σ rfl (by lia)
    have t2 : subV (.tup [.int ((sqN (i / 2) : Nat) : Int), a, .int ((crn i : Nat) : Int), b]) (.int 2) σ = some (.int ((crn i : Nat) : Int)) := sub_t (i := 2) σ rfl (by lia)
    have kk : P.b[sqN (i / 2)]? = some (((i / 2 : Nat) : Int) * 8 + 6) := by
      rcases (by lia : i / 2 = 0 ∨ i / 2 = 1) with h | h <;> rw [h]
      · exact HB.kings.k0
      · exact HB.kings.k1
    have e0 := brd_at H kk (by unfold sqN; split <;> lia)
    have e2 := brd_at H (HB.rook i hi ht) (by have := (crn_fin ⟨i, hi⟩).1; dsimp only at this; lia)
    have rs := (shr_l (i : Int) σ).1
    rw [fdiv_pow, show 2 ^ 1 = 2 from rfl] at rs
    have m6 := make_piece_ok d ((i / 2 : Nat) : Int) 6 (by lia) σ
    have m4 := make_piece_ok d ((i / 2 : Nat) : Int) 4 (by lia) σ
    have dx : ∀ x : Int, decide (x = x) = true := fun x => decide_eq_true rfl
    refine ⟨.next, some (.tup [.int ((sqN (i / 2) : Nat) : Int), a, .int ((crn i : Nat) : Int), b]), .inl rfl, ?_⟩
    generalize runF initOf tbl (d + 1) = F at *
    simp only [y_nil, y_cons, k_seq_n, k_seq_r, k_seq_c, y_asg, k_asg_s, k_end_s, y_asgA, k_asgA_s, k_asgA2_s, y_unp, k_unp_s, k_unp2_s, k_unp3_s, y_unpA, k_unpA_s, k_unpA2_s, y_aug, k_aug_s, k_aug2_s, y_augA, k_augA_s, k_augA2_s, k_augA3_s, k_augA4_s, y_ife, k_ife_t, k_ife_f, y_for, y_forT, k_for_s, y_ret, k_ret_s, y_exp, k_exp_s, y_cont, y_try, k_var_s, z_cst, z_var, z_tab, z_bin, k_bin_s, k_bin2_s, z_neg, k_neg_s, z_inv, k_inv_s, z_not, k_not_b, z_ife, k_ifE_t, k_ifE_f, k_bool_s, z_cmp, k_cmp_s, z_bop, k_bop_tt, k_bop_tf, k_bop_ft, k_bop_ff, z_attr, k_attr_s, z_sub, k_sub_s, k_sub2_s, z_slice, k_slice_s, k_slice2_s, k_slice3_s, z_rev, k_rev_s, z_list, z_tup, k_list0, k_list1, k_list6, k_tup2, k_tup3, k_tup4, z_call, k_call_s, z_new, k_new_s, k_new2_s, z_bi, k_bi_s, z_meth, k_meth_s, k_meth2_s, k_meth3_s, lst_str, z_comp, z_nil, z_cons, k_cons_s, k_cons2_s, k_tst_s, c_one, k_one_s, c_cons, k_cc_s, k_cc2_t, k_cc2_f, t_val, k_val_s, t_not, k_tnot_s, t_bop, k_tbop_tt, k_tbop_tf, k_tbop_ft, k_tbop_ff, t_cmp, k_tcmp_s, i_nil, b_add, b_sub, b_and, b_or, b_xor, u_add, u_sub, u_or, u_xor, m_eq, m_ne, m_lt, m_le, m_gt, m_ge, m_seq, m_sne, v_bool, v_int, Bool.not_true, Bool.not_false, Option.join_some, g0, g1, g2, g3, g4, g5, g6, g7, g8, g9, g10, g11, s0, s1, s2, s3, s4, s5, s6, s7, s8, s9, s10, s11, bd, crBody, p16, sh, and_nn, dd, p18, a12, ca, isn, p20, t0, t2, e0, e2, rs, m6, m4, dx, decide_true]
theorem check_rights_ok (d : Nat) {σ : AH} {p : Nat} {P : Pz} {r : Nat} (G : Geo σ) (H : PosAt σ p P) (HB : BrdOk P.b r) (hr : P.rights = (r : Int)) (h16 : r < 16) : runF initOf tbl (d + 2) 33 [.obj p] σ = some (.none, σ) := by
  have h1 := H.obj
  unfold posFs at h1
  have p16 := attr_i (a := 16) σ h1 rfl
  rw [hr] at p16
  have loop := forV_r0 (st := stK 1) (body := bd (runF initOf tbl (d + 1)) crBody) 4 (by lia)
    (fun i env S => S = σ ∧ ∃ x1 x2, env = [some (.obj p), x1, x2])
    (fun i env S hi I => by
      obtain ⟨rfl, x1, x2, rfl⟩ := I
      obtain ⟨f, y2, hf, e⟩ := cr_body d G H HB hr hi x2
      exact ⟨_, rfl, f, _, _, hf, e, rfl, _, _, rfl⟩)
    [some (.obj p), none, none] σ ⟨rfl, none, none, rfl⟩
  obtain ⟨env', S, e, rfl, x1, x2, rfl⟩ := loop
  have br : biV .range [.int 4] S = some (.range 0 ((4 : Nat) : Int) 1, S) := bi_range S (n := 4) (by lia)
  have d1 : decide ((0 : Int) ≤ (r : Int)) = true := decide_eq_true (by lia)
  have d2 : decide ((r : Int) < 16) = true := decide_eq_true (by lia)
  unfold crBody at e
  refine run_next' (fn := f_check_rights) rfl rfl ?_
  show ∃ env', exSs _ _ f_check_rights.body ([some (.obj p), none, none]) S = _
  generalize runF initOf tbl (d + 1) = F at *
  simp only [y_nil, y_cons, k_seq_n, k_seq_r, k_seq_c, y_asg, k_asg_s, k_end_s, y_asgA, k_asgA_s, k_asgA2_s, y_unp, k_unp_s, k_unp2_s, k_unp3_s, y_unpA, k_unpA_s, k_unpA2_s, y_aug, k_aug_s, k_aug2_s, y_augA, k_augA_s, k_augA2_s, k_augA3_s, k_augA4_s, y_ife, k_ife_t, k_ife_f, y_for, y_forT, k_for_s, y_ret, k_ret_s, y_exp, k_exp_s, y_cont, y_try, k_var_s, z_cst, z_var, z_tab, z_bin, k_bin_s, k_bin2_s, z_neg, k_neg_s, z_inv, k_inv_s, z_not, k_not_b, z_ife, k_ifE_t, k_ifE_f, k_bool_s, z_cmp, k_cmp_s, z_bop, k_bop_tt, k_bop_tf, k_bop_ft, k_bop_ff, z_attr, k_attr_s, z_sub, k_sub_s, k_sub2_s, z_slice, k_slice_s, k_slice2_s, k_slice3_s, z_rev, k_rev_s, z_list, z_tup, k_list0, k_list1, k_list6, k_tup2, k_tup3, k_tup4, z_call, k_call_s, z_new, k_new_s, k_new2_s, z_bi, k_bi_s, z_meth, k_meth_s, k_meth2_s, k_meth3_s, lst_str, z_comp, z_nil, z_cons, k_cons_s, k_cons2_s, k_tst_s, c_one, k_one_s, c_cons, k_cc_s, k_cc2_t, k_cc2_f, t_val, k_val_s, t_not, k_tnot_s, t_bop, k_tbop_tt, k_tbop_tf, k_tbop_ft, k_tbop_ff, t_cmp, k_tcmp_s, i_nil, b_add, b_sub, b_and, b_or, b_xor, u_add, u_sub, u_or, u_xor, m_eq, m_ne, m_lt, m_le, m_gt, m_ge, m_seq, m_sne, v_bool, v_int, Bool.not_true, Bool.not_false, Option.join_some, g0, g1, g2, g3, g4, g5, g6, g7, g8, g9, g10, g11, s0, s1, s2, s3, s4, s5, s6, s7, s8, s9, s10, s11, f_check_rights, p16, d1, d2, br, e]
  exact ⟨_, rfl⟩
theorem check_pieces_ok (d : Nat) {σ : AH} {p : Nat} {P : Pz} {r : Nat} (G : Geo σ) (H : PosAt σ p P) (HB : BrdOk P.b r) : runF initOf tbl (d + 3) 50 [.obj p] σ = some (.none, σ) := by
  have c1 := check_kings_ok d H HB.kings
  have c2 := check_pawns_ok (d + 1) G H HB
  refine run_next' (fn := f_check_pieces) rfl rfl ?_
  show ∃ env', exSs _ _ f_check_pieces.body ([some (.obj p), none]) σ = _
  generalize runF initOf tbl (d + 2) = F at *
  simp only [y_nil, y_cons, k_seq_n, k_seq_r, k_seq_c, y_asg, k_asg_s, k_end_s, y_asgA, k_asgA_s, k_asgA2_s, y_unp, k_unp_s, k_unp2_s, k_unp3_s, y_unpA, k_unpA_s, k_unpA2_s, y_aug, k_aug_s, k_aug2_s, y_augA, k_augA_s, k_augA2_s, k_augA3_s, k_augA4_s, y_ife, k_ife_t, k_ife_f, y_for, y_forT, k_for_s, y_ret, k_ret_s, y_exp, k_exp_s, y_cont, y_try, k_var_s, z_cst, z_var, z_tab, z_bin, k_bin_s, k_bin2_s, z_neg, k_neg_s, z_inv, k_inv_s, z_not, k_not_b, z_ife, k_ifE_t, k_ifE_f, k_bool_s, z_cmp, k_cmp_s, z_bop, k_bop_tt, k_bop_tf, k_bop_ft, k_bop_ff, z_attr, k_attr_s, z_sub, k_sub_s, k_sub2_s, z_slice, k_slice_s, k_slice2_s, k_slice3_s, z_rev, k_rev_s, z_list, z_tup, k_list0, k_list1, k_list6, k_tup2, k_tup3, k_tup4, z_call, k_call_s, z_new, k_new_s, k_new2_s, z_bi, k_bi_s, z_meth, k_meth_s, k_meth2_s, k_meth3_s, lst_str, z_comp, z_nil, z_cons, k_cons_s, k_cons2_s, k_tst_s, c_one, k_one_s, c_cons, k_cc_s, k_cc2_t, k_cc2_f, t_val, k_val_s, t_not, k_tnot_s, t_bop, k_tbop_tt, k_tbop_tf, k_tbop_ft, k_tbop_ff, t_cmp, k_tcmp_s, i_nil, b_add, b_sub, b_and, b_or, b_xor, u_add, u_sub, u_or, u_xor, m_eq, m_ne, m_lt, m_le, m_gt, m_ge, m_seq, m_sne, v_bool, v_int, Bool.not_true, Bool.not_false, Option.join_some, g0, g1, g2, g3, g4, g5, g6, g7, g8, g9, g10, g11, s0, s1, s2, s3, s4, s5, s6, s7, s8, s9, s10, s11, f_check_pieces, c1, c2]
  exact ⟨_, rfl⟩
theorem check_wings_ok (d : Nat) {σ : AH} {p : Nat} {P : Pz} {r : Nat} (G : Geo σ) (H : PosAt σ p P) (HB : BrdOk P.b r) (hr : P.rights = (r : Int)) (h16 : r < 16) : runF initOf tbl (d + 3) 51 [.obj p] σ = some (.none, σ) := by
  have c1 := check_rights_ok d G H HB hr h16
  refine run_next' (fn := f_check_wings) rfl rfl ?_
  show ∃ env', exSs _ _ f_check_wings.body ([some (.obj p), none]) σ = _
  generalize runF initOf tbl (d + 2) = F at *
  simp only [y_nil, y_cons, k_seq_n, k_seq_r, k_seq_c, y_asg, k_asg_s, k_end_s, y_asgA, k_asgA_s, k_asgA2_s, y_unp, k_unp_s, k_unp2_s, k_unp3_s, y_unpA, k_unpA_s, k_unpA2_s, y_aug, k_aug_s, k_aug2_s, y_augA, k_augA_s, k_augA2_s, k_augA3_s, k_augA4_s, y_ife, k_ife_t, k_ife_f, y_for, y_forT, k_for_s, y_ret, k_ret_s, y_exp, k_exp_s, y_cont, y_try, k_var_s, z_cst, z_var, z_tab, z_bin, k_bin_s, k_bin2_s, z_neg, k_neg_s, z_inv, k_inv_s, z_not, k_not_b, z_ife, k_ifE_t, k_ifE_f, k_bool_s, z_cmp, k_cmp_s, z_bop, k_bop_tt, k_bop_tf, k_bop_ft, k_bop_ff, z_attr, k_attr_s, z_sub, k_sub_s, k_sub2_s, z_slice, k_slice_s, k_slice2_s, k_slice3_s, z_rev, k_rev_s, z_list, z_tup, k_list0, k_list1, k_list6, k_tup2, k_tup3, k_tup4, z_call, k_call_s, z_new, k_new_s, k_new2_s, z_bi, k_bi_s, z_meth, k_meth_s, k_meth2_s, k_meth3_s, lst_str, z_comp, z_nil, z_cons, k_cons_s, k_cons2_s, k_tst_s, c_one, k_one_s, c_cons, k_cc_s, k_cc2_t, k_cc2_f, t_val, k_val_s, t_not, k_tnot_s, t_bop, k_tbop_tt, k_tbop_tf, k_tbop_ft, k_tbop_ff, t_cmp, k_tcmp_s, i_nil, b_add, b_sub, b_and, b_or, b_xor, u_add, u_sub, u_or, u_xor, m_eq, m_ne, m_lt, m_le, m_gt, m_ge, m_seq, m_sne, v_bool, v_int, Bool.not_true, Bool.not_false, Option.join_some, g0, g1, g2, g3, g4, g5, g6, g7, g8, g9, g10, g11, s0, s1, s2, s3, s4, s5, s6, s7, s8, s9, s10, s11, f_check_wings, c1]
  exact ⟨_, rfl⟩
end Mine
namespace Mine
open PySem
noncomputable def cpB (b : List Int) (i : Nat) : List Int := (List.range 28).map fun t => if t < i then b.getD t 0 else 0
theorem cp_len (b : List Int) (i : Nat) : (cpB b i).length = 28 := by unfold cpB; simp
theorem cp_get (b : List Int) (i t : Nat) (ht : t < 28) : (cpB b i)[t]? = some (if t < i then b.getD t 0 else 0) := by unfold cpB; simp [ht]
theorem cp_zero (b : List Int) : cpB b 0 = List.replicate 28 0 := by
  apply List.ext_getElem?
  intro t
  by_cases ht : t < 28
  · rw [cp_get _ _ _ ht, if_neg (by lia), List.getElem?_replicate, if_pos ht]
  · rw [List.getElem?_eq_none (by rw [cp_len]; lia), List.getElem?_replicate, if_neg ht]
theorem cp_step {b : List Int} {i : Nat} (hi : i < 28) : cpB b (i + 1) = (cpB b i).set i (b.getD i 0) := by
  apply List.ext_getElem?
  intro t
  by_cases ht : t < 28
  · rw [cp_get _ _ _ ht]
    by_cases e : i = t
    · subst e
      rw [List.getElem?_set_self (by rw [cp_len]; exact ht), if_pos (by lia)]
    · rw [List.getElem?_set_ne e, cp_get _ _ _ ht]
      by_cases hlt : t < i
      · rw [if_pos (by lia), if_pos hlt]
      · rw [if_neg (by lia), if_neg hlt]
  · rw [List.getElem?_eq_none (by rw [cp_len]; lia), List.getElem?_eq_none (by rw [List.length_set, cp_len]; lia)]
theorem cp_all {b : List Int} (hl : b.length = 28) : cpB b 28 = b := by
  apply List.ext_getElem?
  intro t
  by_cases ht : t < 28
  · rw [cp_get _ _ _ ht, if_pos ht, List.getD_eq_getElem?_getD, List.getElem?_eq_getElem (by lia)]; rfl
  · rw [List.getElem?_eq_none (by rw [cp_len]; lia), List.getElem?_eq_none (by lia)]
noncomputable def bpBody : ISs := .cons (.ife (.cmp (.sub (.var 5) (.var 10)) (.one .NotEq (.cst
    (.int 0)))) (.cons (.exp (.call 25 (.cons (.var 9) (.cons (.sub (.var 5) (.var 10)) (.cons (.var 10) (.nil)))))) (.nil)) (.nil)) (.nil)
theorem bp_body (d : Nat) {σ : AH} {q n i : Nat} {b : List Int} {Q : Pz} (G : Geo σ) (HQ : PosAt σ q Q) (hn : σ[n]? = some (.list (b.map .int))) (hl : b.length = 28) (hi : i < 28) (hb : ∀ x ∈ b, CellOk x) (hQ : Q.b = cpB b i) {x0 x1 x2 x3 x4 x6 x7 x8 : Option V} :
    ∃ σ' key, bd (runF initOf tbl (d + 2)) bpBody [x0, x1, x2, x3, x4, some (.obj n), x6, x7, x8, some (.obj q), some (.int (i : Int))] σ
      = some (.next, [x0, x1, x2, x3, x4, some (.obj n), x6, x7, x8, some (.obj q), some (.int (i : Int))], σ') ∧ PosAt σ' q { Q with b := cpB b (i + 1), key := key } ∧ σ'.length = σ.length ∧ ∀ j, (j < q ∨ q + 6 < j) → σ'[j]? = σ[j]? := by
  have eb : b[i]? = some b[i] := List.getElem?_eq_getElem (by lia)
  have ed : b.getD i 0 = b[i] := by rw [List.getD_eq_getElem?_getD, eb]; rfl
  have hcell := hb _ (List.getElem_mem (show i < b.length by lia))
  have sb : subV (.obj n) (.int (i : Int)) σ = some (.int b[i]) := sub_l σ hn (by rw [List.getElem?_map, eb]; rfl) (by lia)
  have hstep := cp_step (b := b) hi
  rw [ed] at hstep
  generalize b[i] = x at *
  rcases hcell with rfl | ⟨sd, k, h1, h2, h3, rfl⟩
  · have dd : decide ((0 : Int) = 0) = true := rfl
    refine ⟨σ, Q.key, ?_, ?_, rfl, fun _ _ => rfl⟩
    · generalize runF initOf tbl (d + 2) = F at *
      simp only [y_nil, y_cons, k_seq_n, k_seq_r, k_seq_c, y_asg, k_asg_s, k_end_s, y_asgA, k_asgA_s, k_asgA2_s, y_unp, k_unp_s, k_unp2_s, k_unp3_s, y_unpA, k_unpA_s, k_unpA2_s, y_aug, k_aug_s, k_aug2_s, y_augA, k_augA_s, k_augA2_s, k_augA3_s, k_augA4_s, y_ife, k_ife_t, k_ife_f, y_for, y_forT, k_for_s, y_ret, k_ret_s, y_exp, k_exp_s, y_cont, y_try, k_var_s, z_cst, z_var, z_tab, z_bin, k_bin_s, k_bin2_s, z_neg, k_neg_s, z_inv, k_inv_s, z_not, k_not_b, z_ife, k_ifE_t, k_ifE_f, k_bool_s, z_cmp, k_cmp_s, z_bop, k_bop_tt, k_bop_tf, k_bop_ft, k_bop_ff, z_attr, k_attr_s, z_sub, k_sub_s, k_sub2_s, z_slice, k_slice_s, k_slice2_s, k_slice3_s, z_rev, k_rev_s, z_list, z_tup, k_list0, k_list1, k_list6, k_tup2, k_tup3, k_tup4, z_call, k_call_s, z_new, k_new_s, k_new2_s, z_bi, k_bi_s, z_meth, k_meth_s, k_meth2_s, k_meth3_s, lst_str, z_comp, z_nil, z_cons, k_cons_s, k_cons2_s, k_tst_s, c_one, k_one_s, c_cons, k_cc_s, k_cc2_t, k_cc2_f, t_val, k_val_s, t_not, k_tnot_s, t_bop, k_tbop_tt, k_tbop_tf, k_tbop_ft, k_tbop_ff, t_cmp, k_tcmp_s, i_nil, b_add, b_sub, b_and, b_or, b_xor, u_add, u_sub, u_or, u_xor, m_eq, m_ne, m_lt, m_le, m_gt, m_ge, m_seq, m_sne, v_bool, v_int, Bool.not_true, Bool.not_false, Option.join_some, g0, g1, g2, g3, g4, g5, g6, g7, g8, g9, g10, g11, s0, s1, s2, s3, s4, s5, s6, s7, s8, s9, s10, s11, bd, bpBody, sb, decide_true]
    · have e : cpB b (i + 1) = cpB b i := by
        rw [hstep]
        apply List.ext_getElem?
        intro t
        by_cases e : i = t
        · subst e
          rw [List.getElem?_set_self (by rw [cp_len]; exact hi), cp_get _ _ _ hi, if_neg (by lia)]
        · rw [List.getElem?_set_ne e]
      rw [e, ← hQ]; exact HQ
  · obtain ⟨key, σ', r1, r2, r3, r4⟩ := put_piece_ok d (sd := sd) (k := k) (s := i) G HQ h1 ⟨h2, h3⟩ hi (by
      rw [hQ, cp_get _ _ _ hi, if_neg (by lia)])
    have hd : decide ((sd : Int) * 8 + k = 0) = false := decide_eq_false (by lia)
    refine ⟨σ', key, ?_, ?_, r3, r4⟩
    · generalize runF initOf tbl (d + 2) = F at *
      simp only [y_nil, y_cons, k_seq_n, k_seq_r, k_seq_c, y_asg, k_asg_s, k_end_s, y_asgA, k_asgA_s, k_asgA2_s, y_unp, k_unp_s, k_unp2_s, k_unp3_s, y_unpA, k_unpA_s, k_unpA2_s, y_aug, k_aug_s, k_aug2_s, y_augA, k_augA_s, k_augA2_s, k_augA3_s, k_augA4_s, y_ife, k_ife_t, k_ife_f, y_for, y_forT, k_for_s, y_ret, k_ret_s, y_exp, k_exp_s, y_cont, y_try, k_var_s, z_cst, z_var, z_tab, z_bin, k_bin_s, k_bin2_s, z_neg, k_neg_s, z_inv, k_inv_s, z_not, k_not_b, z_ife, k_ifE_t, k_ifE_f, k_bool_s, z_cmp, k_cmp_s, z_bop, k_bop_tt, k_bop_tf, k_bop_ft, k_bop_ff, z_attr, k_attr_s, z_sub, k_sub_s, k_sub2_s, z_slice, k_slice_s, k_slice2_s, k_slice3_s, z_rev, k_rev_s, z_list, z_tup, k_list0, k_list1, k_list6, k_tup2, k_tup3, k_tup4, z_call, k_call_s, z_new, k_new_s, k_new2_s, z_bi, k_bi_s, z_meth, k_meth_s, k_meth2_s, k_meth3_s, lst_str, z_comp, z_nil, z_cons, k_cons_s, k_cons2_s, k_tst_s, c_one, k_one_s, c_cons, k_cc_s, k_cc2_t, k_cc2_f, t_val, k_val_s, t_not, k_tnot_s, t_bop, k_tbop_tt, k_tbop_tf, k_tbop_ft, k_tbop_ff, t_cmp, k_tcmp_s, i_nil, b_add, b_sub, b_and, b_or, b_xor, u_add, u_sub, u_or, u_xor, m_eq, m_ne, m_lt, m_le, m_gt, m_ge, m_seq, m_sne, v_bool, v_int, Bool.not_true, Bool.not_false, Option.join_some, g0, g1, g2, g3, g4, g5, g6, g7, g8, g9, g10, g11, s0, s1, s2, s3, s4, s5, s6, s7, s8, s9, s10, s11, bd, bpBody, sb, hd, r1]
    · have e : cpB b (i + 1) = Q.b.set i ((sd : Int) * 8 + k) := by rw [hstep, hQ]
      rw [e]; exact r2
theorem build_position_ok (d : Nat) {σ : AH} (G : Geo σ) (h52 : 52 ≤ σ.length) {n s r h f : Nat} {b : List Int} (hn : σ[n]? = some (.list (b.map .int))) (HB : BrdOk b r) (h16 : r < 16) (hs : s < 2) (hck : chk b (1 - s) = false) :
    ∃ σ', runF initOf tbl (d + 6) 52 [.tup [.obj n, .int (s : Int), .int (r : Int), .int (-1)], .int (h : Int), .int (f : Int), .obj 21, .obj 20] σ = some (.obj σ.length, σ')
      ∧ Gro σ σ' ∧ PosAt σ' σ.length ⟨b, (s : Int), (r : Int), (h : Int), (f : Int), fkey b (s : Int) (r : Int)⟩ := by
  have hl := HB.kings.len
  have hb := HB.kings.cell
  obtain ⟨gfs, e21, e7, e4, e28, _⟩ := geo21 G
  have po := position_ok (d + 4) (s := σ) G h52
  have G1 := G.app (newPos σ.length) h52
  have Q1 := newPos_at (s := σ) h52
  have len1 : (σ ++ newPos σ.length).length = σ.length + 7 := by simp [newPos]
  have n1 := (List.getElem?_eq_some_iff.mp hn).1
  have loop := forV_r0 (st := stK 10) (body := bd (runF initOf tbl (d + 5)) bpBody) 28 (by lia)
    (fun i env S => (∃ x10, env = [some (.tup [.obj n, .int (s : Int), .int (r : Int), .int (-1)]), some (.int (h : Int)), some (.int (f : Int)), some (.obj 21), some (.obj 20), some (.obj n), some (.int (s : Int)), some (.int (r : Int)), some (.int (-1)), some (.obj σ.length), x10])
      ∧ Gro σ S ∧ (∃ key, PosAt S σ.length { blank σ.length with b := cpB b i, key := key }) ∧ S.length = σ.length + 7)
    (fun i env S hi I => by
      obtain ⟨⟨x10, rfl⟩, E, ⟨key, Q'⟩, l'⟩ := I
      obtain ⟨S2, key2, r1, r2, r3, r4⟩ := bp_body (d + 3) (E.geo G) Q' (E.get hn) hl hi hb rfl (x0 := some (.tup [.obj n, .int (s : Int), .int (r : Int), .int (-1)])) (x1 := some (.int (h : Int))) (x2 := some (.int (f : Int))) (x3 := some (.obj 21)) (x4 := some (.obj 20)) (x6 := some (.int (s : Int))) (x7 := some (.int (r : Int))) (x8 := some (.int (-1)))
      exact ⟨_, rfl, .next, _, _, .inl rfl, r1, ⟨_, rfl⟩, ⟨by lia, fun j hj => by rw [r4 _ (.inl hj)]; exact E.same j hj⟩, ⟨key2, r2⟩, by lia⟩)
    [some (.tup [.obj n, .int (s : Int), .int (r : Int), .int (-1)]), some (.int (h : Int)), some (.int (f : Int)), some (.obj 21), some (.obj 20), some (.obj n), some (.int (s : Int)), some (.int (r : Int)), some (.int (-1)), some (.obj σ.length), none] (σ ++ newPos σ.length)
    ⟨⟨_, rfl⟩, Gro.app _ _, ⟨0, by rw [cp_zero]; exact Q1⟩, len1⟩
  obtain ⟨env', S, e, ⟨x10, rfl⟩, E, ⟨key, Q2⟩, l2⟩ := loop
  rw [cp_all hl] at Q2
  have sa1 := set_fld Q2 17 (.int (s : Int)) { blank σ.length with b := b, key := key, side := (s : Int) } rfl
  have P1 := Q2.setObj (Q := { blank σ.length with b := b, key := key, side := (s : Int) }) rfl
  have sa2 := set_fld P1 16 (.int (r : Int)) { blank σ.length with b := b, key := key, side := (s : Int), rights := (r : Int) } rfl
  have P2 := P1.setObj (Q := { blank σ.length with b := b, key := key, side := (s : Int), rights := (r : Int) }) rfl
  have sa3 := set_fld P2 23 (.int (h : Int)) { blank σ.length with b := b, key := key, side := (s : Int), rights := (r : Int), half := (h : Int) } rfl
  have P3 := P2.setObj (Q := { blank σ.length with b := b, key := key, side := (s : Int), rights := (r : Int), half := (h : Int) }) rfl
  have sa4 := set_fld P3 3 (.int (f : Int)) { blank σ.length with b := b, key := key, side := (s : Int), rights := (r : Int), half := (h : Int), full := (f : Int) } rfl
  have P4 := P3.setObj (Q := { blank σ.length with b := b, key := key, side := (s : Int), rights := (r : Int), half := (h : Int), full := (f : Int) }) rfl
  have E4 := (((E.setNew (Nat.le_refl _) (.inst 2 (posFs σ.length { blank σ.length with b := b, key := key, side := (s : Int) }))).setNew (Nat.le_refl _) (.inst 2 (posFs σ.length { blank σ.length with b := b, key := key, side := (s : Int), rights := (r : Int) }))).setNew (Nat.le_refl _)
    (.inst 2 (posFs σ.length { blank σ.length with b := b, key := key, side := (s : Int), rights := (r : Int), half := (h : Int) }))).setNew (Nat.le_refl _) (.inst 2 (posFs σ.length { blank σ.length with b := b, key := key, side := (s : Int), rights := (r : Int), half := (h : Int), full := (f : Int) }))
  generalize ((((S.set σ.length _).set σ.length _).set σ.length _).set σ.length _ : AH) = S4 at sa4 P4 E4
  have G4 := E4.geo G
  have cp := check_pieces_ok (d + 2) (r := r) G4 P4 HB
  have cw := check_wings_ok (d + 2) (r := r) G4 P4 HB rfl h16
  have sk := settle_key_ok (d + 2) G4 P4 (r := r) rfl h16 (by show (s : Int) = 0 ∨ (s : Int) = 1; lia) (fun x hx => (hb x hx).range)
  have P5 := P4.setObj (Q := ⟨b, (s : Int), (r : Int), (h : Int), (f : Int), fkey b (s : Int) (r : Int)⟩) rfl
  have E5 := E4.setNew (Nat.le_refl _) (.inst 2 (posFs σ.length ⟨b, (s : Int), (r : Int), (h : Int), (f : Int), fkey b (s : Int) (r : Int)⟩))
  have G5 := E5.geo G
  have sk' : runF initOf tbl (d + 5) 30 [.obj σ.length] S4 = some (.none, S4.set σ.length (.inst 2 (posFs σ.length ⟨b, (s : Int), (r : Int), (h : Int), (f : Int), fkey b (s : Int) (r : Int)⟩))) := sk
  generalize (S4.set σ.length (.inst 2 (posFs σ.length ⟨b, (s : Int), (r : Int), (h : Int), (f : Int), fkey b (s : Int) (r : Int)⟩)) : AH) = S5 at sk' P5 E5 G5
  have ic := in_check_ok d G5 P5 HB.kings (s := 1 - s) (by lia)
  rw [show (⟨b, (s : Int), (r : Int), (h : Int), (f : Int), fkey b (s : Int) (r : Int)⟩ : Pz).b = b from rfl, hck] at ic
  have ci : (1 : Int) - (s : Int) = ((1 - s : Nat) : Int) := by lia
  have em : decide ((0 : Int) ≤ -1) = false := by decide
  have a2 := attr_i (a := 2) (σ ++ newPos σ.length) ((Gro.app σ (newPos σ.length)).get e21) e28
  have br : biV .range [.int 28] (σ ++ newPos σ.length) = some (.range 0 ((28 : Nat) : Int) 1, σ ++ newPos σ.length) := bi_range _ (n := 28) (by lia)
  have un : unpV (.tup [.obj n, .int (s : Int), .int (r : Int), .int (-1)]) σ = some [.obj n, .int (s : Int), .int (r : Int), .int (-1)] := rfl
  have ba : bindAll [5, 6, 7, 8] [.obj n, .int (s : Int), .int (r : Int), .int (-1)] [some (.tup [.obj n, .int (s : Int), .int (r : Int), .int (-1)]), some (.int (h : Int)), some (.int (f : Int)), some (.obj 21), some (.obj 20), none, none, none, none, none, none]
    = some [some (.tup [.obj n, .int (s : Int), .int (r : Int), .int (-1)]), some (.int (h : Int)), some (.int (f : Int)), some (.obj 21), some (.obj 20), some (.obj n), some (.int (s : Int)), some (.int (r : Int)), some (.int (-1)), none, none] := rfl
  have i2 : initOf 2 = 24 := rfl
  unfold bpBody at e
  refine ⟨S5, ?_, E5, P5⟩
  refine run_ret' (fn := f_build_position) rfl rfl ?_
  show ∃ env', exSs _ _ f_build_position.body ([some (.tup [.obj n, .int (s : Int), .int (r : Int), .int (-1)]), some (.int (h : Int)), some (.int (f : Int)), some (.obj 21), some (.obj 20), none, none, none, none, none, none]) σ = _
  generalize runF initOf tbl (d + 5) = F at *
  simp only [y_nil, y_cons, k_seq_n, k_seq_r, k_seq_c, y_asg, k_asg_s, k_end_s, y_asgA, k_asgA_s, k_asgA2_s, y_unp, k_unp_s, k_unp2_s, k_unp3_s, y_unpA, k_unpA_s, k_unpA2_s, y_aug, k_aug_s, k_aug2_s, y_augA, k_augA_s, k_augA2_s, k_augA3_s, k_augA4_s, y_ife, k_ife_t, k_ife_f, y_for, y_forT, k_for_s, y_ret, k_ret_s, y_exp, k_exp_s, y_cont, y_try, k_var_s, z_cst, z_var, z_tab, z_bin, k_bin_s, k_bin2_s, z_neg, k_neg_s, z_inv, k_inv_s, z_not, k_not_b, z_ife, k_ifE_t, k_ifE_f, k_bool_s, z_cmp, k_cmp_s, z_bop, k_bop_tt, k_bop_tf, k_bop_ft, k_bop_ff, z_attr, k_attr_s, z_sub, k_sub_s, k_sub2_s, z_slice, k_slice_s, k_slice2_s, k_slice3_s, z_rev, k_rev_s, z_list, z_tup, k_list0, k_list1, k_list6, k_tup2, k_tup3, k_tup4, z_call, k_call_s, z_new, k_new_s, k_new2_s, z_bi, k_bi_s, z_meth, k_meth_s, k_meth2_s, k_meth3_s, lst_str, z_comp, z_nil, z_cons, k_cons_s, k_cons2_s, k_tst_s, c_one, k_one_s, c_cons, k_cc_s, k_cc2_t, k_cc2_f, t_val, k_val_s, t_not, k_tnot_s, t_bop, k_tbop_tt, k_tbop_tf, k_tbop_ft, k_tbop_ff, t_cmp, k_tcmp_s, i_nil, b_add, b_sub, b_and, b_or, b_xor, u_add, u_sub, u_or, u_xor, m_eq, m_ne, m_lt, m_le, m_gt, m_ge, m_seq, m_sne, v_bool, v_int, Bool.not_true, Bool.not_false, Option.join_some, g0, g1, g2, g3, g4, g5, g6, g7, g8, g9, g10, g11, s0, s1, s2, s3, s4, s5, s6, s7, s8, s9, s10, s11, f_build_position, un, ba, i2, po, a2, br, e, sa1, sa2, sa3, sa4, cp, cw, em, sk', ci, ic]
  exact ⟨_, rfl⟩
theorem read_fen_ok (d : Nat) {σ : AH} (G : Geo σ) (h52 : 52 ≤ σ.length) {s r h f : Nat} {b : List Int} (HB : BrdOk b r) (h16 : r < 16) (hs : s < 2) (hh : h < 301) (hf : 1 ≤ f ∧ f < 301) (hck : chk b (1 - s) = false) :
    ∃ σ' q, runF initOf tbl (d + 7) 53 [.str (fenT b (s : Int) r h f), .obj 21, .obj 20] σ = some (.obj q, σ')
      ∧ Gro σ σ' ∧ PosAt σ' q ⟨b, (s : Int), (r : Int), (h : Int), (f : Int), fkey b (s : Int) (r : Int)⟩ := by
  have hl := HB.kings.len
  have hb := HB.kings.cell
  have hlen := fen_len hl (s : Int) h16 hh hf.2
  have sp1 := me_split σ (fenT b (s : Int) r h f) 32 (by lia)
  rw [split_fen hl hb (s : Int) h16 hh hf.2] at sp1
  obtain ⟨S1, eS1⟩ : ∃ S1 : AH, S1 = σ ++ [AO.list ([brdT b, sideT (s : Int), rgtT r, [45], intText h, intText f].map .str)] := ⟨_, rfl⟩
  have E1 : Gro σ S1 := by rw [eS1]; exact Gro.app _ _
  have g1' : S1[σ.length]? = some (.list ([brdT b, sideT (s : Int), rgtT r, [45], intText h, intText f].map .str)) := by rw [eS1, ap_get0]; rfl
  rw [← eS1] at sp1
  have ln := bi_len_l S1 g1' (by simp)
  have d1 : decide ((([brdT b, sideT (s : Int), rgtT r, [45], intText h, intText f].map V.str).length : Int) = 6) = true := rfl
  obtain ⟨S2, q, rf, E2, hq⟩ := read_fields_ok (d + 2) (E1.geo G) hl hb hs h16 g1'
  have u4 : subV (.obj σ.length) (.int 4) S2 = some (.str (intText h)) := sub_l (i := 4) S2 (E2.get g1') rfl (by lia)
  have u5 : subV (.obj σ.length) (.int 5) S2 = some (.str (intText f)) := sub_l (i := 5) S2 (E2.get g1') rfl (by lia)
  have c4 : runF initOf tbl (d + 6) 48 [.str (intText (h : Int)), .int 4, .int 0] S2 = some (.int (h : Int), S2) := read_clock_ok (d + 4) S2 (l := 0) hh (by lia) 4
  have c5 : runF initOf tbl (d + 6) 48 [.str (intText (f : Int)), .int 5, .int 1] S2 = some (.int (f : Int), S2) := read_clock_ok (d + 4) S2 (l := 1) hf.2 hf.1 5
  obtain ⟨S3, bp, E3, P3⟩ := build_position_ok d (h := h) (f := f) ((E1.trans E2).geo G) (Nat.le_trans h52 (E1.trans E2).le) hq HB h16 hs hck
  refine ⟨S3, S2.length, ?_, (E1.trans E2).trans E3, P3⟩
  refine run_ret' (fn := f_read_fen) rfl rfl ?_
  show ∃ env', exSs _ _ f_read_fen.body ([some (.str (fenT b (s : Int) r h f)), some (.obj 21), some (.obj 20), none, none, none, none]) σ = _
  generalize runF initOf tbl (d + 6) = F at *
  simp only [y_nil, y_cons, k_seq_n, k_seq_r, k_seq_c, y_asg, k_asg_s, k_end_s, y_asgA, k_asgA_s, k_asgA2_s, y_unp, k_unp_s, k_unp2_s, k_unp3_s, y_unpA, k_unpA_s, k_unpA2_s, y_aug, k_aug_s, k_aug2_s, y_augA, k_augA_s, k_augA2_s, k_augA3_s, k_augA4_s, y_ife, k_ife_t, k_ife_f, y_for, y_forT, k_for_s, y_ret, k_ret_s, y_exp, k_exp_s, y_cont, y_try, k_var_s, z_cst, z_var, z_tab, z_bin, k_bin_s, k_bin2_s, z_neg, k_neg_s, z_inv, k_inv_s, z_not, k_not_b, z_ife, k_ifE_t, k_ifE_f, k_bool_s, z_cmp, k_cmp_s, z_bop, k_bop_tt, k_bop_tf, k_bop_ft, k_bop_ff, z_attr, k_attr_s, z_sub, k_sub_s, k_sub2_s, z_slice, k_slice_s, k_slice2_s, k_slice3_s, z_rev, k_rev_s, z_list, z_tup, k_list0, k_list1, k_list6, k_tup2, k_tup3, k_tup4, z_call, k_call_s, z_new, k_new_s, k_new2_s, z_bi, k_bi_s, z_meth, k_meth_s, k_meth2_s, k_meth3_s, lst_str, z_comp, z_nil, z_cons, k_cons_s, k_cons2_s, k_tst_s, c_one, k_one_s, c_cons, k_cc_s, k_cc2_t, k_cc2_f, t_val, k_val_s, t_not, k_tnot_s, t_bop, k_tbop_tt, k_tbop_tf, k_tbop_ft, k_tbop_ff, t_cmp, k_tcmp_s, i_nil, b_add, b_sub, b_and, b_or, b_xor, u_add, u_sub, u_or, u_xor, m_eq, m_ne, m_lt, m_le, m_gt, m_ge, m_seq, m_sne, v_bool, v_int, Bool.not_true, Bool.not_false, Option.join_some, g0, g1, g2, g3, g4, g5, g6, g7, g8, g9, g10, g11, s0, s1, s2, s3, s4, s5, s6, s7, s8, s9, s10, s11, f_read_fen, sp1, ln, d1, rf, u4, u5, c4, c5, bp]
  exact ⟨_, rfl⟩
end Mine
namespace Mine
open PySem
theorem tsq_mid : ∀ i : Fin 28, 7 ≤ tsq i.val ∧ tsq i.val < 21 → 7 ≤ i.val ∧ i.val < 21 := by decide
theorem turnR_bit : ∀ r : Fin 16, ∀ j : Fin 4, (turnR r.val).testBit j.val = r.val.testBit ((j.val + 2) % 4) ∧ tsq (crn j.val) = crn ((j.val + 2) % 4) := by decide
theorem flip1_fin : ∀ (sd : Fin 2) (k : Fin 7), 1 ≤ k.val → flipP ((sd.val : Int) * 8 + k.val) = 1 ∨ flipP ((sd.val : Int) * 8 + k.val) = 9 → (sd.val : Int) * 8 + k.val = 1 ∨ (sd.val : Int) * 8 + k.val = 9 := by decide
theorem jfin : ∀ j : Fin 4, (j.val + 2) % 4 < 4 ∧ (j.val + 2) % 4 / 2 < 2 ∧ 1 - (j.val + 2) % 4 / 2 = j.val / 2 := by decide
theorem flip_1 {x : Int} (h : CellOk x) (hf : flipP x = 1 ∨ flipP x = 9) : x = 1 ∨ x = 9 := by
  rcases h with rfl | ⟨sd, k, h1, h2, h3, rfl⟩
  · rcases hf with h | h <;> cases h
  · exact flip1_fin ⟨sd, h1⟩ ⟨k, Nat.lt_succ_of_le h3⟩ h2 hf
theorem BrdOk.turn {b : List Int} {r : Nat} (H : BrdOk b r) (h16 : r < 16) : BrdOk (turnB b) (turnR r) := by
  have hl := H.kings.len
  refine ⟨H.kings.turn, ?_, ?_⟩
  · intro i x e hx
    have hi : i < 28 := by have := (List.getElem?_eq_some_iff.mp e).1; rw [show (turnB b).length = 28 from tb_len b 28] at this; exact this
    have ht := tsq_lt ⟨i, hi⟩
    dsimp only at ht
    have e2 : b[tsq i]? = some b[tsq i] := List.getElem?_eq_getElem (by lia)
    rw [turnB_get hi, List.getD_eq_getElem?_getD, e2, Option.getD_some, Option.some.injEq] at e
    have c := H.kings.cell _ (List.getElem_mem (show tsq i < b.length by lia))
    have := H.pawn _ _ e2 (flip_1 c (by rw [e]; exact hx))
    exact tsq_mid ⟨i, hi⟩ this
  · intro j hj hb
    obtain ⟨t1, t2⟩ := turnR_bit ⟨r, h16⟩ ⟨j, hj⟩
    dsimp only at t1 t2
    rw [t1] at hb
    obtain ⟨j1, j2, j3⟩ := jfin ⟨j, hj⟩
    dsimp only at j1 j2 j3
    have rk := H.rook _ j1 hb
    have c := (crn_fin ⟨j, hj⟩).1
    dsimp only at c
    rw [turnB_get c, t2, List.getD_eq_getElem?_getD, rk, Option.getD_some, show ((((j + 2) % 4 / 2 : Nat) : Int) * 8 + 4) = (((j + 2) % 4 / 2 : Nat) : Int) * 8 + ((4 : Nat) : Int) from rfl, flip_is j2 (by decide), j3]
    rfl
noncomputable def Pk (b : List Int) (s r h f : Nat) : Pz := ⟨b, (s : Int), (r : Int), (h : Int), (f : Int), fkey b (s : Int) (r : Int)⟩
theorem turnP_Pk {b : List Int} {s r h f : Nat} (hs : s < 2) : turnP (Pk b s r h f) r = Pk (turnB b) (1 - s) (turnR r) h f := by
  unfold turnP Pk
  have ci : (1 : Int) - (s : Int) = ((1 - s : Nat) : Int) := by lia
  dsimp only
  rw [ci]
theorem LawPos.isPk {σ : AH} {p : Nat} {P : Pz} {s r h f : Nat} (H : LawPos σ p P s r h f) : P = Pk P.b s r h f := by
  have h1 := H.side
  have h2 := H.rights
  have h3 := H.half
  have h4 := H.full
  have h5 := H.key
  obtain ⟨b, sd, ri, ha, fu, ke⟩ := P
  dsimp only at h1 h2 h3 h4 h5
  subst h1 h2 h3 h4 h5
  rfl
structure Good (b : List Int) (s r h f : Nat) : Prop where
  brd : BrdOk b r
  s2 : s < 2
  r16 : r < 16
  hh : h < 301
  hf : 1 ≤ f ∧ f < 301
  ck : chk b (1 - s) = false
theorem Good.turn {b : List Int} {s r h f : Nat} (H : Good b s r h f) : Good (turnB b) (1 - s) (turnR r) h f := by
  refine ⟨H.brd.turn H.r16, by lia, (turnR_is ⟨r, H.r16⟩).2.1, H.hh, H.hf, ?_⟩
  rw [chk_turn H.brd.kings (s := 1 - s) (by lia)]
  exact H.ck
noncomputable def lwBody : ISs := .cons (.asg 7 (.call
    53 (.cons (.var 6) (.cons (.attr (.var 2) 18) (.cons (.attr (.var 2) 19) (.nil)))))) (.cons (.ife (.bop false (.not (.val (.call 29 (.cons (.var 7) (.cons (.var 5) (.nil)))))) (.cmp (.call 58 (.cons (.var 7) (.nil))) (.one
    .NotEq (.var 6)))) (.cons (.ret (.cst (.bool false))) (.nil)) (.nil)) (.nil))
theorem lw_body (d : Nat) {σ : AH} {p0 p : Nat} {P0 : Pz} {b : List Int} {s r h f : Nat} (G : Geo σ) (h52 : 52 ≤ σ.length) (H0 : PosAt σ p0 P0) (H : PosAt σ p (Pk b s r h f)) (Q : Good b s r h f) {x0 x1 x3 x4 x7 : Option V} :
    ∃ σ' y7, bd (runF initOf tbl (d + 7)) lwBody [x0, x1, some (.obj p0), x3, x4, some (.obj p), some (.str (fenT b (s : Int) r h f)), x7] σ = some (.next, [x0, x1, some (.obj p0), x3, x4, some (.obj p), some (.str (fenT b (s : Int) r h f)), y7], σ') ∧ Gro σ σ' := by
  have ho := H0.obj
  unfold posFs at ho
  have a18 := attr_i (a := 18) σ ho rfl
  have a19 := attr_i (a := 19) σ ho rfl
  have hs2 := Q.s2
  obtain ⟨S1, q, rf, E1, P1⟩ := read_fen_ok d G h52 (h := h) Q.brd Q.r16 Q.s2 Q.hh Q.hf Q.ck
  have sp := same_position_ok (d + 6) (E1.geo G) (P := Pk b s r h f) P1 (E1.pos H)
  obtain ⟨S2, wf, E2⟩ := write_fen_ok (d + 1) (E1.geo G) P1 (r := r) (h := h) (f := f) rfl Q.r16 (by show (s : Int) = 0 ∨ (s : Int) = 1; lia) Q.brd.kings.cell rfl Q.hh rfl Q.hf.2
  have wf' : runF initOf tbl (d + 7) 58 [.obj q] S1 = some (.str (fenT b (s : Int) r h f), S2) := wf
  have dd : decide (fenT b (s : Int) r h f = fenT b (s : Int) r h f) = true := decide_eq_true rfl
  refine ⟨S2, some (.obj q), ?_, E1.trans E2⟩
  generalize runF initOf tbl (d + 7) = F at *
  simp only [y_nil, y_cons, k_seq_n, k_seq_r, k_seq_c, y_asg, k_asg_s, k_end_s, y_asgA, k_asgA_s, k_asgA2_s, y_unp, k_unp_s, k_unp2_s, k_unp3_s, y_unpA, k_unpA_s, k_unpA2_s, y_aug, k_aug_s, k_aug2_s, y_augA, k_augA_s, k_augA2_s, k_augA3_s, k_augA4_s, y_ife, k_ife_t, k_ife_f, y_for, y_forT, k_for_s, y_ret, k_ret_s, y_exp, k_exp_s, y_cont, y_try, k_var_s, z_cst, z_var, z_tab, z_bin, k_bin_s, k_bin2_s, z_neg, k_neg_s, z_inv, k_inv_s, z_not, k_not_b, z_ife, k_ifE_t, k_ifE_f, k_bool_s, z_cmp, k_cmp_s, z_bop, k_bop_tt, k_bop_tf, k_bop_ft, k_bop_ff, z_attr, k_attr_s, z_sub, k_sub_s, k_sub2_s, z_slice, k_slice_s, k_slice2_s, k_slice3_s, z_rev, k_rev_s, z_list, z_tup, k_list0, k_list1, k_list6, k_tup2, k_tup3, k_tup4, z_call, k_call_s, z_new, k_new_s, k_new2_s, z_bi, k_bi_s, z_meth, k_meth_s, k_meth2_s, k_meth3_s, lst_str, z_comp, z_nil, z_cons, k_cons_s, k_cons2_s, k_tst_s, c_one, k_one_s, c_cons, k_cc_s, k_cc2_t, k_cc2_f, t_val, k_val_s, t_not, k_tnot_s, t_bop, k_tbop_tt, k_tbop_tf, k_tbop_ft, k_tbop_ff, t_cmp, k_tcmp_s, i_nil, b_add, b_sub, b_and, b_or, b_xor, u_add, u_sub, u_or, u_xor, m_eq, m_ne, m_lt, m_le, m_gt, m_ge, m_seq, m_sne, v_bool, v_int, Bool.not_true, Bool.not_false, Option.join_some, g0, g1, g2, g3, g4, g5, g6, g7, g8, g9, g10, g11, s0, s1, s2, s3, s4, s5, s6, s7, s8, s9, s10, s11, bd, lwBody, a18, a19, rf, sp, wf', dd, decide_true]
noncomputable def lawTail : ISs := post 1 f_law.body
theorem law_ok (xs : List Int) : ∃ env' σ', exSs initOf (runF initOf tbl 19) lawTail (none :: some (.obj 1) :: List.replicate 6 none) [.list ((xs.take 30).map .int), .dict [(26, .obj 0), (27, .int 0)]] = some (.ret (.bool true), env', σ') := by
  obtain ⟨σ1, P, s, r, h, f, lb, LP⟩ := law_board_ok (xs.take 30) (by rw [List.length_take]; lia)
  have hP := LP.isPk
  have h1 := LP.pos
  have hs2 := LP.s2
  generalize P.b = b at *
  subst hP
  have G1 := LP.geo
  have B : BrdOk b r := LP.brd
  have cb : ∀ {b : List Int} {r : Nat}, BrdOk b r → ∀ x ∈ b, CellOk x := fun B => B.kings.cell
  have ho := h1.obj
  unfold posFs at ho
  have a17 : attrV (.obj 52) 17 σ1 = some (.int (s : Int)) := attr_i (a := 17) σ1 ho rfl
  have ci : (1 : Int) - (s : Int) = ((1 - s : Nat) : Int) := by lia
  have ic := in_check_ok 14 G1 h1 B.kings (s := 1 - s) (by lia)
  cases hc : chk b (1 - s) with
  | true =>
    rw [show (Pk b s r h f).b = b from rfl, hc] at ic
    show ∃ env' σ', exSs initOf (runF initOf tbl 19) lawTail [none, some (.obj 1), none, none, none, none, none, none] _ = _
    generalize runF initOf tbl 19 = F at *
    simp only [y_nil, y_cons, k_seq_n, k_seq_r, k_seq_c, y_asg, k_asg_s, k_end_s, y_asgA, k_asgA_s, k_asgA2_s, y_unp, k_unp_s, k_unp2_s, k_unp3_s, y_unpA, k_unpA_s, k_unpA2_s, y_aug, k_aug_s, k_aug2_s, y_augA, k_augA_s, k_augA2_s, k_augA3_s, k_augA4_s, y_ife, k_ife_t, k_ife_f, y_for, y_forT, k_for_s, y_ret, k_ret_s, y_exp, k_exp_s, y_cont, y_try, k_var_s, z_cst, z_var, z_tab, z_bin, k_bin_s, k_bin2_s, z_neg, k_neg_s, z_inv, k_inv_s, z_not, k_not_b, z_ife, k_ifE_t, k_ifE_f, k_bool_s, z_cmp, k_cmp_s, z_bop, k_bop_tt, k_bop_tf, k_bop_ft, k_bop_ff, z_attr, k_attr_s, z_sub, k_sub_s, k_sub2_s, z_slice, k_slice_s, k_slice2_s, k_slice3_s, z_rev, k_rev_s, z_list, z_tup, k_list0, k_list1, k_list6, k_tup2, k_tup3, k_tup4, z_call, k_call_s, z_new, k_new_s, k_new2_s, z_bi, k_bi_s, z_meth, k_meth_s, k_meth2_s, k_meth3_s, lst_str, z_comp, z_nil, z_cons, k_cons_s, k_cons2_s, k_tst_s, c_one, k_one_s, c_cons, k_cc_s, k_cc2_t, k_cc2_f, t_val, k_val_s, t_not, k_tnot_s, t_bop, k_tbop_tt, k_tbop_tf, k_tbop_ft, k_tbop_ff, t_cmp, k_tcmp_s, i_nil, b_add, b_sub, b_and, b_or, b_xor, u_add, u_sub, u_or, u_xor, m_eq, m_ne, m_lt, m_le, m_gt, m_ge, m_seq, m_sne, v_bool, v_int, Bool.not_true, Bool.not_false, Option.join_some, g0, g1, g2, g3, g4, g5, g6, g7, g8, g9, g10, g11, s0, s1, s2, s3, s4, s5, s6, s7, s8, s9, s10, s11, lawTail, post, f_law, lb, a17, ci, ic]
    exact ⟨_, _, rfl⟩
  | false =>
    rw [show (Pk b s r h f).b = b from rfl, hc] at ic
    have Q : Good b s r h f := ⟨B, hs2, LP.r16, by have := LP.h50; lia, by have := LP.f1; lia, hc⟩
    have Q2 := Q.turn
    have sd : ∀ s : Nat, s < 2 → ((s : Int) = 0 ∨ (s : Int) = 1) := fun s h => by lia
    obtain ⟨σ2, tp, G2, T2, l2, same2⟩ := turn_position_ok 15 G1 h1 (r := r) rfl Q.r16 (sd s hs2) (cb B)
    rw [turnP_Pk hs2] at T2
    have E2 : Gro σ1 σ2 := ⟨by lia, same2⟩
    obtain ⟨σ3, wf, E3⟩ := write_fen_ok 13 G2 (E2.pos h1) (r := r) (h := h) (f := f) rfl Q.r16 (sd s hs2) (cb B) rfl Q.hh rfl Q.hf.2
    obtain ⟨σ4, wf2, E4⟩ := write_fen_ok 13 (E3.geo G2) (E3.pos T2) (r := turnR r) (h := h) (f := f) rfl Q2.r16 (sd _ Q2.s2) (cb Q2.brd) rfl Q.hh rfl Q.hf.2
    obtain ⟨σ5, lt, E5⟩ := law_turned_ok 17 B.kings.len (cb B) (s := (s : Int)) (sd s hs2) Q.r16 Q.hh Q.hf.2 σ4
    rw [ci] at lt
    obtain ⟨σ6, lf, E6⟩ := law_fills_ok 18 B.kings.len (cb B) (s := (s : Int)) Q.r16 Q.hh Q.hf.2 σ5
    have E36 := (E4.trans E5).trans E6
    have G6 := (E3.trans E36).geo G2
    have T6 := (E3.trans E36).pos T2
    have ho6 := T6.obj
    unfold posFs at ho6
    have a24 : attrV (.obj σ1.length) 24 σ6 = some (.int (fkey (turnB b) ((1 - s : Nat) : Int) ((turnR r : Nat) : Int))) := attr_i (a := 24) σ6 ho6 rfl
    have fk := full_key_ok 17 G6 T6 (r := turnR r) rfl Q2.r16 (sd _ Q2.s2) (fun x hx => (cb Q2.brd x hx).range)
    have fk' : runF initOf tbl 19 23 [.obj σ1.length] σ6 = some (.int (fkey (turnB b) ((1 - s : Nat) : Int) ((turnR r : Nat) : Int)), σ6) := fk
    obtain ⟨σ7, tp2, G7, T7, l7, same7⟩ := turn_position_ok 15 G6 T6 (r := turnR r) rfl Q2.r16 (sd _ Q2.s2) (cb Q2.brd)
    rw [turnP_Pk Q2.s2, turnB_turnB B.kings.len (cb B), show 1 - (1 - s) = s by lia, (turnR_is ⟨r, Q.r16⟩).2.2] at T7
    have E7 : Gro σ6 σ7 := ⟨by lia, same7⟩
    have E17 := (E2.trans (E3.trans E36)).trans E7
    have sp := same_position_ok 18 G7 T7 (E17.pos h1)
    obtain ⟨σ8, lt8, E8⟩ := law_turned_ok 17 B.kings.len (cb B) (s := (s : Int)) (sd s hs2) Q.r16 Q.hh Q.hf.2 σ7
    rw [ci] at lt8
    have G8 := E8.geo G7
    have p8 : PosAt σ8 52 (Pk b s r h f) := (E17.trans E8).pos h1
    have t8 : PosAt σ8 σ1.length (Pk (turnB b) (1 - s) (turnR r) h f) := (E7.trans E8).pos T6
    have le8 : 52 ≤ σ8.length := by have := p8.lt; lia
    have loop := forV_tup (st := stT [5, 6]) (body := bd (runF initOf tbl 19) lwBody) (vs := [.tup [.obj 52, .str (fenT b (s : Int) r h f)], .tup [.obj σ1.length, .str (fenT (turnB b) ((1 - s : Nat) : Int) (turnR r) h f)]])
      (fun i env S => (∃ x5 x6 x7, env = [none, some (.obj 1), some (.obj 52), some (.obj σ1.length), some (.str (fenT b (s : Int) r h f)), x5, x6, x7]) ∧ Gro σ8 S)
      (fun i env S v hv I => by
        obtain ⟨⟨x5, x6, x7, rfl⟩, E⟩ := I
        have hv' := List.mem_of_getElem? hv
        simp only [List.mem_cons, List.not_mem_nil, or_false] at hv'
        have le : 52 ≤ S.length := Nat.le_trans le8 E.le
        rcases hv' with rfl | rfl
        · obtain ⟨S', y7, e, E'⟩ := lw_body 12 (E.geo G8) le (E.pos p8) (E.pos p8) Q (x0 := none) (x1 := some (.obj 1)) (x3 := some (.obj σ1.length)) (x4 := some (.str (fenT b (s : Int) r h f))) (x7 := x7)
          exact ⟨_, rfl, .next, _, _, .inl rfl, e, ⟨_, _, _, rfl⟩, E.trans E'⟩
        · obtain ⟨S', y7, e, E'⟩ := lw_body 12 (E.geo G8) le (E.pos p8) (E.pos t8) Q2 (x0 := none) (x1 := some (.obj 1)) (x3 := some (.obj σ1.length)) (x4 := some (.str (fenT b (s : Int) r h f))) (x7 := x7)
          exact ⟨_, rfl, .next, _, _, .inl rfl, e, ⟨_, _, _, rfl⟩, E.trans E'⟩)
      [none, some (.obj 1), some (.obj 52), some (.obj σ1.length), some (.str (fenT b (s : Int) r h f)), none, none, none] σ8 ⟨⟨none, none, none, rfl⟩, Gro.refl _⟩
    obtain ⟨env', S, e, ⟨x5, x6, x7, rfl⟩, _⟩ := loop
    unfold lwBody at e
    have un : unpV (.tup [.obj σ1.length, .str (fenT b (s : Int) r h f)]) σ3 = some [.obj σ1.length, .str (fenT b (s : Int) r h f)] := rfl
    have ba : bindAll [3, 4] [.obj σ1.length, .str (fenT b (s : Int) r h f)] [none, some (.obj 1), some (.obj 52), none, none, none, none, none] = some [none, some (.obj 1), some (.obj 52), some (.obj σ1.length), some (.str (fenT b (s : Int) r h f)), none, none, none] := rfl
    have tp' : runF initOf tbl 19 35 [.obj 52] σ1 = some (.obj σ1.length, σ2) := tp
    have tp2' : runF initOf tbl 19 35 [.obj σ1.length] σ6 = some (.obj σ6.length, σ7) := tp2
    have wf' : runF initOf tbl 19 58 [.obj 52] σ2 = some (.str (fenT b (s : Int) r h f), σ3) := wf
    have wf2' : runF initOf tbl 19 58 [.obj σ1.length] σ3 = some (.str (fenT (turnB b) ((1 - s : Nat) : Int) (turnR r) h f), σ4) := wf2
    have lt' : runF initOf tbl 19 62 [.str (fenT b (s : Int) r h f)] σ4 = some (.str (fenT (turnB b) ((1 - s : Nat) : Int) (turnR r) h f), σ5) := lt
    have lt8' : runF initOf tbl 19 62 [.str (fenT b (s : Int) r h f)] σ7 = some (.str (fenT (turnB b) ((1 - s : Nat) : Int) (turnR r) h f), σ8) := lt8
    show ∃ env' σ', exSs initOf (runF initOf tbl 19) lawTail [none, some (.obj 1), none, none, none, none, none, none] _ = _
    generalize runF initOf tbl 19 = F at *
    simp only [y_nil, y_cons, k_seq_n, k_seq_r, k_seq_c, y_asg, k_asg_s, k_end_s, y_asgA, k_asgA_s, k_asgA2_s, y_unp, k_unp_s, k_unp2_s, k_unp3_s, y_unpA, k_unpA_s, k_unpA2_s, y_aug, k_aug_s, k_aug2_s, y_augA, k_augA_s, k_augA2_s, k_augA3_s, k_augA4_s, y_ife, k_ife_t, k_ife_f, y_for, y_forT, k_for_s, y_ret, k_ret_s, y_exp, k_exp_s, y_cont, y_try, k_var_s, z_cst, z_var, z_tab, z_bin, k_bin_s, k_bin2_s, z_neg, k_neg_s, z_inv, k_inv_s, z_not, k_not_b, z_ife, k_ifE_t, k_ifE_f, k_bool_s, z_cmp, k_cmp_s, z_bop, k_bop_tt, k_bop_tf, k_bop_ft, k_bop_ff, z_attr, k_attr_s, z_sub, k_sub_s, k_sub2_s, z_slice, k_slice_s, k_slice2_s, k_slice3_s, z_rev, k_rev_s, z_list, z_tup, k_list0, k_list1, k_list6, k_tup2, k_tup3, k_tup4, z_call, k_call_s, z_new, k_new_s, k_new2_s, z_bi, k_bi_s, z_meth, k_meth_s, k_meth2_s, k_meth3_s, lst_str, z_comp, z_nil, z_cons, k_cons_s, k_cons2_s, k_tst_s, c_one, k_one_s, c_cons, k_cc_s, k_cc2_t, k_cc2_f, t_val, k_val_s, t_not, k_tnot_s, t_bop, k_tbop_tt, k_tbop_tf, k_tbop_ft, k_tbop_ff, t_cmp, k_tcmp_s, i_nil, b_add, b_sub, b_and, b_or, b_xor, u_add, u_sub, u_or, u_xor, m_eq, m_ne, m_lt, m_le, m_gt, m_ge, m_seq, m_sne, v_bool, v_int, Bool.not_true, Bool.not_false, Option.join_some, g0, g1, g2, g3, g4, g5, g6, g7, g8, g9, g10, g11, s0, s1, s2, s3, s4, s5, s6, s7, s8, s9, s10, s11, lawTail, post, f_law, lb, a17, ci, ic, tp', wf', un, ba, wf2', lt', lf, a24, fk', tp2', sp, lt8', e, decide_true]
    exact ⟨_, _, rfl⟩
end Mine
namespace Mine
open PySem PySem.W PyProof.Rows PySem.Calls
noncomputable def faL : List Addr := [117, 124, 131, 138, 145, 152, 168, 182, 189, 196, 203, 210, 217, 224, 231, 238, 245, 252, 259, 266, 273, 287, 301, 308, 322, 336, 343, 350, 357, 364, 371, 392, 399, 406, 413, 420, 427, 434, 441, 448, 455, 462, 483, 490, 497, 504, 511, 518, 525, 532, 539, 546, 553, 560, 567, 574, 581, 588, 595, 603, 608, 613, 618, 625, 632, 385, 378, 476, 469]
noncomputable def faK (i : Nat) : Addr := faL.getD i 0
noncomputable def clsK : Nat → Addr
  | 0 => 171
  | 1 => 290
  | _ => 325
noncomputable def FnAll (K : Frag) : Nat → Prop
  | 0 => True
  | n + 1 => FnAll K n ∧ fnTm K (faK n) = (tbl n).map fun fn => (fn.n, fn.body)
theorem fnAll_step {K : Frag} {n : Nat} (h : FnAll K n) (h2 : fnTm K (faK n) = (tbl n).map fun fn => (fn.n, fn.body)) : FnAll K (n + 1) := ⟨h, h2⟩
theorem fnAll_get {K : Frag} : ∀ {n : Nat}, FnAll K n → ∀ i, i < n → fnTm K (faK i) = (tbl i).map fun fn => (fn.n, fn.body)
  | n + 1, h, i, hi => by
    by_cases q : i = n
    · subst q; exact h.2
    · exact fnAll_get h.1 i (by lia)
theorem tbl_lt {i : Nat} {fn : Fn} (h : tbl i = some fn) : i < 65 := by
  by_cases q : i < 65
  · exact q
  · obtain ⟨j, rfl⟩ := Nat.exists_eq_add_of_le' (Nat.le_of_not_lt q)
    exact zE h
structure FactsK (K : Frag) : Prop where
  fn : FnAll K 65
  glb : (glb.all fun p => gB K clsK faK p.1 p.2) = true
  cls : ((List.range 3).all fun i => cB K (clsK i) (faK (initOf i))) = true
  law : lawOk K 632
  at_ : nsIn K mainGlobals "law" = some (some (.ref 632))
theorem FactsK.fns {K : Frag} (h : FactsK K) (i : Nat) (fn : Fn) (e : tbl i = some fn) : fnTm K (faK i) = some (fn.n, fn.body) := by
  rw [fnAll_get h.fn i (tbl_lt e), e]; rfl
noncomputable def restK (K : Frag) : List Stmt := match fdIn K 632 with
  | some fd => restOf fd.body
  | none => []
theorem mkFacts {K : Frag} {h : Heap} (_X : K.In h) (fn : FnAll K 65) (glb : (glb.all fun p => gB K clsK faK p.1 p.2) = true) (cls : ((List.range 3).all fun i => cB K (clsK i) (faK (initOf i))) = true)
    (law : (fdIn K 632).map (fun fd => (plainArgs fd.params, fd.body)) = some (some [("script" : Str)], FuncBody.stmts ((lawH (restK K)).stmt :: restK K))) (at_ : nsIn K mainGlobals "law" = some (some (.ref 632))) : FactsK K := ⟨fn, glb, cls, ⟨_, law⟩, at_⟩
noncomputable def PLaw : Prop := ∀ xs : List Int, ∃ env' σ', exSs initOf (runF initOf tbl 19) lawRest (none :: some (.obj 1) :: List.replicate 6 none) [.list ((xs.take 30).map .int), .dict [(26, .obj 0), (27, .int 0)]] = some (.ret (.bool true), env', σ')
theorem law_end {K : Frag} (FK : FactsK K) (PL : PLaw) {p : Program} {w : PySem.World} {s : Shared} {loose : List Str} {mean : ExcName → Option Value} {mg mb : Str → Option Value} {pp : Program} (T : Top pp loose mean mg mb s.heap) (X : K.In s.heap)
    {w2 : Addr} {us : List Value} {xs : List Int} (hL : s.heap.IsList w2 us.toArray) (hI : IntsAre us xs) (hlen : xs.length ≤ 63) {RR : Result → Shared → Prop} (k : ∀ h' tk, (∀ b o, s.heap.get? b = some o → h'.get? b = some o) → RR (.ok (.ret (.bool true))) { s with heap := h', toks := tk }) :
    codeAny (model p w) callerA (.call (.ref 632) ⟨[.ref w2], []⟩) RR s :=
  law_walk (c := ⟨p, w, K, s.heap, loose, mean, mg, mb, pp, T, X, clsK⟩) (world_of (fa := faK) FK.fns FK.glb FK.cls) (D := 19) ⟨rfl, by decide +kernel, by decide +kernel⟩ (FK.fns 64 f_law rfl) FK.law rfl hL hI hlen (PL xs) k
theorem plaw : PLaw := fun xs => by
  have h := law_ok xs
  rwa [show lawTail = lawRest from rfl] at h
theorem fin.tw10007411396671696613 : True := trivial
theorem fin.tw10070804522480449196 : True := trivial
theorem fin.tw1012361349325877821 : True := trivial
theorem fin.tw1014637456484912126 : True := trivial
theorem fin.tw10147658903529517814 : True := trivial
theorem fin.tw10196768644732416780 : True := trivial
theorem fin.tw10234915967203826555 : True := trivial
theorem fin.tw10242451874928486539 : True := trivial
theorem fin.tw10279692637995926009 : True := trivial
theorem fin.tw10329872625359487480 : True := trivial
theorem fin.tw1035503724928835527 : True := trivial
theorem fin.tw10383673109516279431 : True := trivial
theorem fin.tw10391319463526535247 : True := trivial
theorem fin.tw10393886385942881009 : True := trivial
theorem fin.tw10411508006071892022 : True := trivial
theorem fin.tw10511823565363050587 : True := trivial
theorem fin.tw10567028658651823492 : True := trivial
theorem fin.tw10580198807604790814 : True := trivial
theorem fin.tw10599938827571368224 : True := trivial
theorem fin.tw10671828304227620169 : True := trivial
theorem fin.tw10696652717036330658 : True := trivial
theorem fin.tw10699407837109476802 : True := trivial
theorem fin.tw10708223146118651492 : True := trivial
theorem fin.tw10751089155417173751 : True := trivial
theorem fin.tw10782327089294195420 : True := trivial
theorem fin.tw1080700006314346644 : True := trivial
theorem fin.tw10807920368746810246 : True := trivial
theorem fin.tw10818889477481085253 : True := trivial
theorem fin.tw10829458402184033698 : True := trivial
theorem fin.tw10860218817744700030 : True := trivial
theorem fin.tw10895054467252067526 : True := trivial
theorem fin.tw10936777179133785780 : True := trivial
theorem fin.tw10939691994893167182 : True := trivial
theorem fin.tw10998343915150870288 : True := trivial
theorem fin.tw11024638832163780183 : True := trivial
theorem fin.tw11039862389202566683 : True := trivial
theorem fin.tw11040825799340251285 : True := trivial
theorem fin.tw11061592194353771069 : True := trivial
theorem fin.tw11079828417688620724 : True := trivial
theorem fin.tw111200028466390044 : True := trivial
theorem fin.tw11147117730913898307 : True := trivial
theorem fin.tw11151619158091525091 : True := trivial
theorem fin.tw11192643925408225281 : True := trivial
theorem fin.tw11209750170652599755 : True := trivial
theorem fin.tw11227884535216515135 : True := trivial
theorem fin.tw11277574374343807151 : True := trivial
theorem fin.tw1128348596072947701 : True := trivial
theorem fin.tw11293339424137598113 : True := trivial
theorem fin.tw11298980531735778240 : True := trivial
theorem fin.tw11325060847842403200 : True := trivial
theorem fin.tw11336253725339858928 : True := trivial
theorem fin.tw11414119711712004833 : True := trivial
theorem fin.tw11414674201277728305 : True := trivial
theorem fin.tw11454252539852477091 : True := trivial
theorem fin.tw11587955951900863698 : True := trivial
theorem fin.tw11607805686811502034 : True := trivial
theorem fin.tw11615019562542576733 : True := trivial
theorem fin.tw11897717083992391400 : True := trivial
theorem fin.tw11906472874536768445 : True := trivial
theorem fin.tw11923680722139196160 : True := trivial
theorem fin.tw11936995450923721628 : True := trivial
theorem fin.tw11953781441336167498 : True := trivial
theorem fin.tw1202912048536075021 : True := trivial
theorem fin.tw12072802829135307789 : True := trivial
theorem fin.tw1209720653154232198 : True := trivial
theorem fin.tw12105171945263650130 : True := trivial
theorem fin.tw12135189313929291683 : True := trivial
theorem fin.tw12149302876761508202 : True := trivial
theorem fin.tw12171577908484138354 : True := trivial
theorem fin.tw12180539936304867106 : True := trivial
theorem fin.tw12212933522069011988 : True := trivial
theorem fin.tw12221555665107904926 : True := trivial
theorem fin.tw12237877928780879103 : True := trivial
theorem fin.tw12239064139714945176 : True := trivial
theorem fin.tw12284014389350100970 : True := trivial
theorem fin.tw12291753297600562012 : True := trivial
theorem fin.tw12292906935544458286 : True := trivial
theorem fin.tw12347537446847802165 : True := trivial
theorem fin.tw12355744275394475900 : True := trivial
theorem fin.tw12356021495744459628 : True := trivial
theorem fin.tw12448240930570709186 : True := trivial
theorem fin.tw12464766053444552404 : True := trivial
theorem fin.tw12494888245299231016 : True := trivial
theorem fin.tw1252854909445205041 : True := trivial
theorem fin.tw12557769604369416430 : True := trivial
theorem fin.tw12567809125941998234 : True := trivial
theorem fin.tw12586190556516072552 : True := trivial
theorem fin.tw12612204703400128841 : True := trivial
theorem fin.tw12649782002744950493 : True := trivial
theorem fin.tw12711679700452659978 : True := trivial
theorem fin.tw12718612220689870738 : True := trivial
theorem fin.tw12740692763255036000 : True := trivial
theorem fin.tw12751662967071866640 : True := trivial
theorem fin.tw12780881840741157306 : True := trivial
theorem fin.tw12809788781938459499 : True := trivial
theorem fin.tw12829507556594621215 : True := trivial
theorem fin.tw12833947400113492166 : True := trivial
theorem fin.tw12847644182280273618 : True := trivial
theorem fin.tw12868640280835112553 : True := trivial
theorem fin.tw12869217540446652890 : True := trivial
theorem fin.tw12876064707754696378 : True := trivial
theorem fin.tw12876116671307685997 : True := trivial
theorem fin.tw12932903420030652473 : True := trivial
theorem fin.tw12946824338688289833 : True := trivial
theorem fin.tw12996517811204074000 : True := trivial
theorem fin.tw13021059552284102479 : True := trivial
theorem fin.tw13066358836101814915 : True := trivial
theorem fin.tw13078500463332346659 : True := trivial
theorem fin.tw13119895379190043232 : True := trivial
theorem fin.tw13177410634674063896 : True := trivial
theorem fin.tw13199158710529813207 : True := trivial
theorem fin.tw13278809456085556237 : True := trivial
theorem fin.tw13294311002278339166 : True := trivial
theorem fin.tw13295704053362595847 : True := trivial
theorem fin.tw13326868189938593150 : True := trivial
theorem fin.tw13337293482115323266 : True := trivial
theorem fin.tw13381708803477554279 : True := trivial
theorem fin.tw13383306551100868464 : True := trivial
theorem fin.tw13423622936843584764 : True := trivial
theorem fin.tw13467322939085005891 : True := trivial
theorem fin.tw13516622038369049944 : True := trivial
theorem fin.tw13523910257889291827 : True := trivial
theorem fin.tw13574545013463194659 : True := trivial
theorem fin.tw13700621096757390547 : True := trivial
theorem fin.tw13734130492090001662 : True := trivial
theorem fin.tw13790858721211988464 : True := trivial
theorem fin.tw13814004702073501669 : True := trivial
theorem fin.tw13815853411582834384 : True := trivial
theorem fin.tw13898374239775968522 : True := trivial
theorem fin.tw1390109508276135513 : True := trivial
theorem fin.tw13925877587632400325 : True := trivial
theorem fin.tw13929302177132474383 : True := trivial
theorem fin.tw1397303283331804279 : True := trivial
theorem fin.tw14075178694198228753 : True := trivial
theorem fin.tw14109310954907245088 : True := trivial
theorem fin.tw14111491100615862519 : True := trivial
theorem fin.tw14134379338385194387 : True := trivial
theorem fin.tw14139026862911339306 : True := trivial
theorem fin.tw14166196953294261902 : True := trivial
theorem fin.tw14210890002308233579 : True := trivial
theorem fin.tw1422313219903470601 : True := trivial
theorem fin.tw14239432107786713131 : True := trivial
theorem fin.tw14245171486683049214 : True := trivial
theorem fin.tw14254621764821748828 : True := trivial
theorem fin.tw14279960228734115912 : True := trivial
theorem fin.tw14333544728242365436 : True := trivial
theorem fin.tw14345562132136545540 : True := trivial
theorem fin.tw14431720936831517352 : True := trivial
theorem fin.tw14468091648759818802 : True := trivial
theorem fin.tw14497727239971306367 : True := trivial
theorem fin.tw14560573928864763818 : True := trivial
theorem fin.tw14578271805448956485 : True := trivial
theorem fin.tw14637358334870819178 : True := trivial
theorem fin.tw14658254696389335927 : True := trivial
theorem fin.tw14665711169546490834 : True := trivial
theorem fin.tw14679806638718605512 : True := trivial
theorem fin.tw14728723275428758510 : True := trivial
theorem fin.tw14786503066443513839 : True := trivial
theorem fin.tw14793013804824869981 : True := trivial
theorem fin.tw14814673180317915700 : True := trivial
theorem fin.tw14838103818555229697 : True := trivial
theorem fin.tw14855157385224911753 : True := trivial
theorem fin.tw14856888987745899463 : True := trivial
theorem fin.tw14899709244077398024 : True := trivial
theorem fin.tw15069271281064182630 : True := trivial
theorem fin.tw15083174532876359662 : True := trivial
theorem fin.tw15144710454662140524 : True := trivial
theorem fin.tw15216479089859931547 : True := trivial
theorem fin.tw15234240111613058569 : True := trivial
theorem fin.tw15309079848183770524 : True := trivial
theorem fin.tw15344004072050561172 : True := trivial
theorem fin.tw1535588207084551279 : True := trivial
theorem fin.tw15373703851562958014 : True := trivial
theorem fin.tw15399907426655090358 : True := trivial
theorem fin.tw1544503264643628384 : True := trivial
theorem fin.tw15459455144867644326 : True := trivial
theorem fin.tw15476544859757588837 : True := trivial
theorem fin.tw15523922138108190246 : True := trivial
theorem fin.tw15530151957754944063 : True := trivial
theorem fin.tw15533503492667675913 : True := trivial
theorem fin.tw15564276425815640635 : True := trivial
theorem fin.tw15566928917628492161 : True := trivial
theorem fin.tw15583698165555649274 : True := trivial
theorem fin.tw1560641971993327685 : True := trivial
theorem fin.tw15621619335703214680 : True := trivial
theorem fin.tw15675102808854859970 : True := trivial
theorem fin.tw15688172546075569117 : True := trivial
theorem fin.tw15741700470354863883 : True := trivial
theorem fin.tw1580780407708033493 : True := trivial
theorem fin.tw15815952407149668801 : True := trivial
theorem fin.tw15832999045522443761 : True := trivial
theorem fin.tw15913912297419572864 : True := trivial
theorem fin.tw15942684835789789487 : True := trivial
theorem fin.tw15989303212955285315 : True := trivial
theorem fin.tw16103849850496634939 : True := trivial
theorem fin.tw16109372258727991565 : True := trivial
theorem fin.tw16115155874713506467 : True := trivial
theorem fin.tw1613116972386908190 : True := trivial
theorem fin.tw16145351769185666540 : True := trivial
theorem fin.tw16175276709679454751 : True := trivial
theorem fin.tw16192418988078311159 : True := trivial
theorem fin.tw16196181902256332553 : True := trivial
theorem fin.tw16205109500356779066 : True := trivial
theorem fin.tw16229209127682248589 : True := trivial
theorem fin.tw16231923513822398981 : True := trivial
theorem fin.tw16237762584071213788 : True := trivial
theorem fin.tw1625080806587739848 : True := trivial
theorem fin.tw16252508478716706905 : True := trivial
theorem fin.tw16256441300576474876 : True := trivial
theorem fin.tw16269368082590959529 : True := trivial
theorem fin.tw16285329926789087883 : True := trivial
theorem fin.tw16307707646766795581 : True := trivial
theorem fin.tw1635022588487117616 : True := trivial
theorem fin.tw16401934584784274106 : True := trivial
theorem fin.tw16429022384663243119 : True := trivial
theorem fin.tw16448676403291746579 : True := trivial
theorem fin.tw16488607150827929282 : True := trivial
theorem fin.tw16496857829328116044 : True := trivial
theorem fin.tw16497079637816224013 : True := trivial
theorem fin.tw16502652511500755 : True := trivial
theorem fin.tw16510490156224867327 : True := trivial
theorem fin.tw16522761824813919436 : True := trivial
theorem fin.tw16530489862217454893 : True := trivial
theorem fin.tw16540275574145912595 : True := trivial
theorem fin.tw16570786720924097770 : True := trivial
theorem fin.tw16584127079891442865 : True := trivial
theorem fin.tw16656299143469825513 : True := trivial
theorem fin.tw1666694428299288667 : True := trivial
theorem fin.tw16683724583794466486 : True := trivial
theorem fin.tw16708981103961760564 : True := trivial
theorem fin.tw16771295499568265973 : True := trivial
theorem fin.tw16798467561266328274 : True := trivial
theorem fin.tw16867096813858660809 : True := trivial
theorem fin.tw16903924287465469464 : True := trivial
theorem fin.tw16906536467411238026 : True := trivial
theorem fin.tw16934629359412608497 : True := trivial
theorem fin.tw16958243865122950064 : True := trivial
theorem fin.tw17067295170570645592 : True := trivial
theorem fin.tw17109930996152030393 : True := trivial
theorem fin.tw17123178472405020103 : True := trivial
theorem fin.tw17130245016438642246 : True := trivial
theorem fin.tw1713156846745171867 : True := trivial
theorem fin.tw17149882997012438147 : True := trivial
theorem fin.tw17186005699333237546 : True := trivial
theorem fin.tw17197158672614542318 : True := trivial
theorem fin.tw17216356624101005634 : True := trivial
theorem fin.tw17220895691602665673 : True := trivial
theorem fin.tw17260493314774615805 : True := trivial
theorem fin.tw17311274769643918242 : True := trivial
theorem fin.tw17425937995043322649 : True := trivial
theorem fin.tw17449020081951674710 : True := trivial
theorem fin.tw17512474026176034454 : True := trivial
theorem fin.tw17570709534508481193 : True := trivial
theorem fin.tw17628183408451194143 : True := trivial
theorem fin.tw17637551073024348614 : True := trivial
theorem fin.tw17662344363894024548 : True := trivial
theorem fin.tw17682806996416514929 : True := trivial
theorem fin.tw17743408960866722510 : True := trivial
theorem fin.tw17784850919643140607 : True := trivial
theorem fin.tw17821466097196317003 : True := trivial
theorem fin.tw17869975865946814897 : True := trivial
theorem fin.tw17896612028031085017 : True := trivial
theorem fin.tw17933470926392208243 : True := trivial
theorem fin.tw17963964198891936676 : True := trivial
theorem fin.tw17971676594858020690 : True := trivial
theorem fin.tw17974384156558142227 : True := trivial
theorem fin.tw18004827428879835118 : True := trivial
theorem fin.tw18082680734076937219 : True := trivial
theorem fin.tw18087328562809068087 : True := trivial
theorem fin.tw18105285910621931680 : True := trivial
theorem fin.tw18105942590061964161 : True := trivial
theorem fin.tw18164189302063226315 : True := trivial
theorem fin.tw18176387895596863783 : True := trivial
theorem fin.tw1819255440876223710 : True := trivial
theorem fin.tw18195182924450695511 : True := trivial
theorem fin.tw18234056687764422867 : True := trivial
theorem fin.tw18255404467826089762 : True := trivial
theorem fin.tw18293562643322913751 : True := trivial
theorem fin.tw18295790063311454060 : True := trivial
theorem fin.tw18373065035072037172 : True := trivial
theorem fin.tw18387650150990424433 : True := trivial
theorem fin.tw18404063521330658252 : True := trivial
theorem fin.tw1887099378405440850 : True := trivial
theorem fin.tw1903126291601959907 : True := trivial
theorem fin.tw1921391257341544841 : True := trivial
theorem fin.tw1951045429614898598 : True := trivial
theorem fin.tw1963134401048803436 : True := trivial
theorem fin.tw1976505206021243879 : True := trivial
theorem fin.tw1982079694162106894 : True := trivial
theorem fin.tw2021336271155450331 : True := trivial
theorem fin.tw2034896404403200777 : True := trivial
theorem fin.tw2051409578822353534 : True := trivial
theorem fin.tw2067723777617599883 : True := trivial
theorem fin.tw2090205506522743130 : True := trivial
theorem fin.tw2103456241558337223 : True := trivial
theorem fin.tw216489041496292469 : True := trivial
theorem fin.tw220677088936066577 : True := trivial
theorem fin.tw2236755162388048479 : True := trivial
theorem fin.tw2275749259730422485 : True := trivial
theorem fin.tw2277568627679802767 : True := trivial
theorem fin.tw2304379251839397102 : True := trivial
theorem fin.tw2305881189932309285 : True := trivial
theorem fin.tw2316539691658765527 : True := trivial
theorem fin.tw2320886540369039338 : True := trivial
theorem fin.tw2321816554428607280 : True := trivial
theorem fin.tw2367325634123391141 : True := trivial
theorem fin.tw2375283059286425376 : True := trivial
theorem fin.tw2377308710366028375 : True := trivial
theorem fin.tw2415902012162501839 : True := trivial
theorem fin.tw2503846163805864124 : True := trivial
theorem fin.tw2512408688544751470 : True := trivial
theorem fin.tw251868834278440796 : True := trivial
theorem fin.tw2537931557510868981 : True := trivial
theorem fin.tw2608567993692976607 : True := trivial
theorem fin.tw2617349483901765261 : True := trivial
theorem fin.tw2656788454239962097 : True := trivial
theorem fin.tw2671655128345628175 : True := trivial
theorem fin.tw2711489104339610207 : True := trivial
theorem fin.tw2789213428527533208 : True := trivial
theorem fin.tw2824846461999071874 : True := trivial
theorem fin.tw2866121171748074186 : True := trivial
theorem fin.tw2885147992704089249 : True := trivial
theorem fin.tw2896703901015224195 : True := trivial
theorem fin.tw3004984022683251337 : True := trivial
theorem fin.tw3008263204520378139 : True := trivial
theorem fin.tw3029852977388229646 : True := trivial
theorem fin.tw3112429581023547943 : True := trivial
theorem fin.tw3125960719983571848 : True := trivial
theorem fin.tw3173534031939492945 : True := trivial
theorem fin.tw3199103547748192838 : True := trivial
theorem fin.tw3211687289105081006 : True := trivial
theorem fin.tw3222278782482380304 : True := trivial
theorem fin.tw3236217559460173300 : True := trivial
theorem fin.tw3263211703599914710 : True := trivial
theorem fin.tw3268265519342814607 : True := trivial
theorem fin.tw3293696948919318046 : True := trivial
theorem fin.tw3302319216010004292 : True := trivial
theorem fin.tw331587747771337591 : True := trivial
theorem fin.tw333583748066197110 : True := trivial
theorem fin.tw3343445320678177929 : True := trivial
theorem fin.tw3373110491918621954 : True := trivial
theorem fin.tw3404873503106905745 : True := trivial
theorem fin.tw3432132637015033673 : True := trivial
theorem fin.tw3456623496861543869 : True := trivial
theorem fin.tw3459265974087741279 : True := trivial
theorem fin.tw3506512066687448480 : True := trivial
theorem fin.tw3558005061807245919 : True := trivial
theorem fin.tw3598329298470268980 : True := trivial
theorem fin.tw3599858809825778643 : True := trivial
theorem fin.tw3683778510129048087 : True := trivial
theorem fin.tw373065315874586923 : True := trivial
theorem fin.tw3762306804915933987 : True := trivial
theorem fin.tw3767311804947220896 : True := trivial
theorem fin.tw3788772014149755174 : True := trivial
theorem fin.tw3794220679723124481 : True := trivial
theorem fin.tw380778119907437045 : True := trivial
theorem fin.tw3810338749695602999 : True := trivial
theorem fin.tw3810570522144960214 : True := trivial
theorem fin.tw3837020019201816242 : True := trivial
theorem fin.tw3857263333814641470 : True := trivial
theorem fin.tw3863403702602939814 : True := trivial
theorem fin.tw3885313090954376144 : True := trivial
theorem fin.tw3906754673857718949 : True := trivial
theorem fin.tw3955986520655104412 : True := trivial
theorem fin.tw3974152918291533672 : True := trivial
theorem fin.tw3975253019698251321 : True := trivial
theorem fin.tw3998398428148030388 : True := trivial
theorem fin.tw4013537778516871869 : True := trivial
theorem fin.tw4040260094072895976 : True := trivial
theorem fin.tw4043148821406017626 : True := trivial
theorem fin.tw4144819383078699286 : True := trivial
theorem fin.tw4162185377826839926 : True := trivial
theorem fin.tw4170516301191304579 : True := trivial
theorem fin.tw4209717502836232480 : True := trivial
theorem fin.tw423345284130997744 : True := trivial
theorem fin.tw4265850918314828415 : True := trivial
theorem fin.tw428092273266315144 : True := trivial
theorem fin.tw4302917861877037783 : True := trivial
theorem fin.tw4306616734650971735 : True := trivial
theorem fin.tw4312942655851389009 : True := trivial
theorem fin.tw4326780796455107134 : True := trivial
theorem fin.tw4329306826757983850 : True := trivial
theorem fin.tw4424551920762525699 : True := trivial
theorem fin.tw4443050520305737185 : True := trivial
theorem fin.tw4499257904209204147 : True := trivial
theorem fin.tw452842511749404161 : True := trivial
theorem fin.tw4561644853628799399 : True := trivial
theorem fin.tw4588413851689716618 : True := trivial
theorem fin.tw4598667867955821814 : True := trivial
theorem fin.tw4613182775407389354 : True := trivial
theorem fin.tw4640724917100965312 : True := trivial
theorem fin.tw4693250869231261295 : True := trivial
theorem fin.tw4704930585520482657 : True := trivial
theorem fin.tw4719063310657182621 : True := trivial
theorem fin.tw4723787954990577340 : True := trivial
theorem fin.tw4759752924163587094 : True := trivial
theorem fin.tw480829909506669009 : True := trivial
theorem fin.tw4868334931027891882 : True := trivial
theorem fin.tw4878226113927451544 : True := trivial
theorem fin.tw4879674094562380441 : True := trivial
theorem fin.tw4898026214463823928 : True := trivial
theorem fin.tw4924110625330727750 : True := trivial
theorem fin.tw4928979718650693569 : True := trivial
theorem fin.tw4950403968356008110 : True := trivial
theorem fin.tw4992356995671143779 : True := trivial
theorem fin.tw500868675978126160 : True := trivial
theorem fin.tw5011121235533021005 : True := trivial
theorem fin.tw5011227242324532581 : True := trivial
theorem fin.tw5045657052860052415 : True := trivial
theorem fin.tw5071919506433949198 : True := trivial
theorem fin.tw5073790198343104882 : True := trivial
theorem fin.tw5102460946473063141 : True := trivial
theorem fin.tw5106123347721008290 : True := trivial
theorem fin.tw5115476493328737885 : True := trivial
theorem fin.tw5196160543931855155 : True := trivial
theorem fin.tw520194297998822909 : True := trivial
theorem fin.tw5212833665933091111 : True := trivial
theorem fin.tw5227809002895711924 : True := trivial
theorem fin.tw5246096745964282443 : True := trivial
theorem fin.tw5250828734511838712 : True := trivial
theorem fin.tw5266742908149448401 : True := trivial
theorem fin.tw5293390819737331289 : True := trivial
theorem fin.tw5320702786494000081 : True := trivial
theorem fin.tw544173102793226557 : True := trivial
theorem fin.tw5486226609284752418 : True := trivial
theorem fin.tw5514125408013525434 : True := trivial
theorem fin.tw5555312102172926907 : True := trivial
theorem fin.tw5634151482396758240 : True := trivial
theorem fin.tw5678346346211369953 : True := trivial
theorem fin.tw5679570950571409650 : True := trivial
theorem fin.tw5734618986648460908 : True := trivial
theorem fin.tw5741801548637672665 : True := trivial
theorem fin.tw5776136370200156792 : True := trivial
theorem fin.tw5792265106169080782 : True := trivial
theorem fin.tw5796354222422608987 : True := trivial
theorem fin.tw5805905742469029177 : True := trivial
theorem fin.tw5886281255703265246 : True := trivial
theorem fin.tw5897612983314593646 : True := trivial
theorem fin.tw5901363791540438844 : True := trivial
theorem fin.tw5962627729488381771 : True := trivial
theorem fin.tw5978438607452443526 : True := trivial
theorem fin.tw5989678634342641329 : True := trivial
theorem fin.tw6068950659093879613 : True := trivial
theorem fin.tw6081921254191324426 : True := trivial
theorem fin.tw6127190174262240918 : True := trivial
theorem fin.tw612862322836996645 : True := trivial
theorem fin.tw6144012678527597917 : True := trivial
theorem fin.tw6164689225882684132 : True := trivial
theorem fin.tw6207176494656529804 : True := trivial
theorem fin.tw6232080684201472732 : True := trivial
theorem fin.tw6289197191216398940 : True := trivial
theorem fin.tw6323506392446703087 : True := trivial
theorem fin.tw6341822008880759003 : True := trivial
theorem fin.tw6380807493870290408 : True := trivial
theorem fin.tw6385529401280152062 : True := trivial
theorem fin.tw6388184931127306564 : True := trivial
theorem fin.tw6400248389586479577 : True := trivial
theorem fin.tw6449190631224713292 : True := trivial
theorem fin.tw6454446336052903152 : True := trivial
theorem fin.tw6462460787818161330 : True := trivial
theorem fin.tw6474043946942992101 : True := trivial
theorem fin.tw6485783843944922600 : True := trivial
theorem fin.tw6498334528663615478 : True := trivial
theorem fin.tw6515953530934532768 : True := trivial
theorem fin.tw6525817661751114472 : True := trivial
theorem fin.tw6531376189190222733 : True := trivial
theorem fin.tw6566618420281934 : True := trivial
theorem fin.tw6567050819087999508 : True := trivial
theorem fin.tw6577878126316647860 : True := trivial
theorem fin.tw6650461044873433052 : True := trivial
theorem fin.tw6667815254911646788 : True := trivial
theorem fin.tw670465573061467203 : True := trivial
theorem fin.tw6707113841082798463 : True := trivial
theorem fin.tw6712194924023145494 : True := trivial
theorem fin.tw6766378078585498003 : True := trivial
theorem fin.tw6766580051018981234 : True := trivial
theorem fin.tw6815667921103612162 : True := trivial
theorem fin.tw6846200578177281708 : True := trivial
theorem fin.tw6951216239237536575 : True := trivial
theorem fin.tw6968583824967984638 : True := trivial
theorem fin.tw7000300075881102575 : True := trivial
theorem fin.tw7021976415091001641 : True := trivial
theorem fin.tw7055459427971326715 : True := trivial
theorem fin.tw7070210977369740762 : True := trivial
theorem fin.tw7130589087949165531 : True := trivial
theorem fin.tw7177338460636591580 : True := trivial
theorem fin.tw7193555501269276637 : True := trivial
theorem fin.tw7210813102946781322 : True := trivial
theorem fin.tw7249652514872940865 : True := trivial
theorem fin.tw7278507554335971580 : True := trivial
theorem fin.tw7282745182861764756 : True := trivial
theorem fin.tw7321584467024264148 : True := trivial
theorem fin.tw7334248845499685764 : True := trivial
theorem fin.tw7336344344812659824 : True := trivial
theorem fin.tw7348594602126897846 : True := trivial
theorem fin.tw7380833856163905736 : True := trivial
theorem fin.tw7439575562449295702 : True := trivial
theorem fin.tw7451905468542833597 : True := trivial
theorem fin.tw7468727024169554154 : True := trivial
theorem fin.tw7470013935711676318 : True := trivial
theorem fin.tw7547296005191728479 : True := trivial
theorem fin.tw757079261281740938 : True := trivial
theorem fin.tw7605189527823165946 : True := trivial
theorem fin.tw7613945582906998725 : True := trivial
theorem fin.tw7636574776371312073 : True := trivial
theorem fin.tw7661832156752021035 : True := trivial
theorem fin.tw7684487725183542926 : True := trivial
theorem fin.tw7692301277026442203 : True := trivial
theorem fin.tw7716820226725407877 : True := trivial
theorem fin.tw7773504467932542270 : True := trivial
theorem fin.tw7779959011674639804 : True := trivial
theorem fin.tw7786677914034681988 : True := trivial
theorem fin.tw7803649310394182010 : True := trivial
theorem fin.tw7822013112032934038 : True := trivial
theorem fin.tw7830602891274557492 : True := trivial
theorem fin.tw7844069586390513008 : True := trivial
theorem fin.tw7845872953664198349 : True := trivial
theorem fin.tw7890596953891613788 : True := trivial
theorem fin.tw7930893340574950883 : True := trivial
theorem fin.tw7976502392129159676 : True := trivial
theorem fin.tw7991221282865430420 : True := trivial
theorem fin.tw799341379326975648 : True := trivial
theorem fin.tw8004206274103572539 : True := trivial
theorem fin.tw8018989035897545986 : True := trivial
theorem fin.tw8025084765662995669 : True := trivial
theorem fin.tw803859442106103436 : True := trivial
theorem fin.tw8075192146702601997 : True := trivial
theorem fin.tw807531904560671035 : True := trivial
theorem fin.tw8088732932480780420 : True := trivial
theorem fin.tw8119881530291889089 : True := trivial
theorem fin.tw8126443298418566877 : True := trivial
theorem fin.tw8166985623705000286 : True := trivial
theorem fin.tw8185091604740117843 : True := trivial
theorem fin.tw824797018042769846 : True := trivial
theorem fin.tw8269367382603917829 : True := trivial
theorem fin.tw8272817396058243321 : True := trivial
theorem fin.tw828056024939588000 : True := trivial
theorem fin.tw8289400949097046189 : True := trivial
theorem fin.tw8331973007464152698 : True := trivial
theorem fin.tw8352470293576582857 : True := trivial
theorem fin.tw8399098705505230059 : True := trivial
theorem fin.tw8416529770105884409 : True := trivial
theorem fin.tw846297522682114974 : True := trivial
theorem fin.tw8472697214298850164 : True := trivial
theorem fin.tw8559517257967667466 : True := trivial
theorem fin.tw8569027658895312972 : True := trivial
theorem fin.tw857469055436470443 : True := trivial
theorem fin.tw8577089030196625639 : True := trivial
theorem fin.tw8587751116856628383 : True := trivial
theorem fin.tw8590288500278120515 : True := trivial
theorem fin.tw8614737586434602478 : True := trivial
theorem fin.tw862447977868951606 : True := trivial
theorem fin.tw8643116662766533202 : True := trivial
theorem fin.tw8651105995357262798 : True := trivial
theorem fin.tw8656503046869711584 : True := trivial
theorem fin.tw8776770756819070316 : True := trivial
theorem fin.tw884059145510264010 : True := trivial
theorem fin.tw888132650186811988 : True := trivial
theorem fin.tw8896352889252549814 : True := trivial
theorem fin.tw8912118831314490624 : True := trivial
theorem fin.tw891787732878383699 : True := trivial
theorem fin.tw8919302590299486024 : True := trivial
theorem fin.tw8947099994592609211 : True := trivial
theorem fin.tw9001875181463519149 : True := trivial
theorem fin.tw9059937348426287209 : True := trivial
theorem fin.tw9113340658982188547 : True := trivial
theorem fin.tw9218923581257491847 : True := trivial
theorem fin.tw9221430085559818832 : True := trivial
theorem fin.tw9247658263007524724 : True := trivial
theorem fin.tw9260378047223084069 : True := trivial
theorem fin.tw9357874355931990178 : True := trivial
theorem fin.tw9363291351745731410 : True := trivial
theorem fin.tw9387745189664136937 : True := trivial
theorem fin.tw9437242357050131058 : True := trivial
theorem fin.tw9445451236469955387 : True := trivial
theorem fin.tw9524518906428321964 : True := trivial
theorem fin.tw9544026089342320630 : True := trivial
theorem fin.tw9578429878718019509 : True := trivial
theorem fin.tw9597861255099599992 : True := trivial
theorem fin.tw9610726530385051774 : True := trivial
theorem fin.tw9659392335347125073 : True := trivial
theorem fin.tw9712136527352899355 : True := trivial
theorem fin.tw9722632081671974098 : True := trivial
theorem fin.tw9725021084223525626 : True := trivial
theorem fin.tw9735714214384596553 : True := trivial
theorem fin.tw9746214513668125432 : True := trivial
theorem fin.tw9746901515087519452 : True := trivial
theorem fin.tw9747544060827109212 : True := trivial
theorem fin.tw9757074474933493440 : True := trivial
theorem fin.tw982560976839675504 : True := trivial
theorem fin.tw9825859731914700964 : True := trivial
theorem fin.tw9913140749668108558 : True := trivial
theorem fin.tw9962418760945406050 : True := trivial
theorem fin.tw9997704412844104603 : True := trivial
open PySem PySem.W PyProof.Rows PySem.Calls
set_option Elab.async true
set_option maxRecDepth 100000 in
set_option maxHeartbeats 0 in
theorem fin : PySem.Challenge.rw_tg0019_01.Holds := by
  w_on
  o_law
  k_head
  case hw => w_witness2
  w_strict (
    k_fill
    intro w s₀ s₁ mg mb G Y fa o pm cd doc dV kV ho hd' hcd hD hmg hg args vals as hpre hlay hrd hwl hlo
    have KX := kIn_of Y
    refine Ground.open G ?_
    intro T B D TE TW
    clear D
    wrow_args hpre hlay hrd hwl hlo
    all_goals (
      first | refine callC_kw (enter_call ?_) | refine enter_call ?_ | refine callC_kw (enter_callW ?_) | refine enter_callW ?_ | w_how
      w_top on
      try refine codeAny_mono ?_ (fun _ _ g => GoodW.toG g)
      skip)
    rename_i xs hs hlay0 hL1 hr1 hl2 a4 a3 w2 us a0 hL ra w1 r0 hI hr hlen hT
    have FK := Mine.mkFacts KX (by (iterate 65 refine Mine.fnAll_step ?_ (by as_aux_lemma => kernel_rfl)); exact trivial) (by as_aux_lemma => kernel_rfl) (by as_aux_lemma => kernel_rfl) (by as_aux_lemma => kernel_rfl) (by as_aux_lemma => kernel_rfl)
    have hfa : fa = 632 := by
      have h1 := mg_of KX T.g FK.at_
      have h2 := hmg
      exact Value.ref.inj (Option.some.inj (h2.symm.trans h1))
    subst hfa
    refine Mine.law_end FK Mine.plaw T KX hL hI (by omega) fun h' tk hk => ?_
    refine ⟨.inl ⟨.bool true, .bool true, [], rfl, fun _ => rfl, ?_, ?_, fun _ => ?_⟩, hk, rfl, hg⟩
    · exact .bool true
    · kernel_rfl
    · exact ⟨List.nodup_nil, fun a h => nomatch h⟩)
end Mine
theorem PySem.Challenge.cw_tg0019_01_holds : PySem.Challenge.rw_tg0019_01.Holds :=
  Mine.fin
