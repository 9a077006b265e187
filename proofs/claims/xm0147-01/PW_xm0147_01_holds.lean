import PyProof.Rows.All
import Wide.All
import OpenK.AllK
import Wide.FinOn
import PySem.Challenge.RW_xm0147_01
set_option Elab.async false
set_option maxRecDepth 100000
set_option linter.unusedVariables false
namespace Mine
open PySem

inductive V where
  | none | bool (b : Bool) | int (i : Int) | ref (k : Nat)
inductive O where
  | list (vs : List V) | tup (vs : List V)
inductive T where
  | nil | node (v : Option O) (l r : T)
def T.get : T → Nat → Option O
  | .nil, _ => .none
  | .node v l r, i => match Nat.beq i 0 with
    | true => v
    | false => match Nat.beq (i % 2) 1 with
      | true => l.get (i / 2)
      | false => r.get (i / 2 - 1)
def T.put : Nat → T → Nat → O → T
  | 0, t, _, _ => t
  | n + 1, .nil, i, o => match Nat.beq i 0 with
    | true => .node (some o) .nil .nil
    | false => match Nat.beq (i % 2) 1 with
      | true => .node .none (T.put n .nil (i / 2) o) .nil
      | false => .node .none .nil (T.put n .nil (i / 2 - 1) o)
  | n + 1, .node v l r, i, o => match Nat.beq i 0 with
    | true => .node (some o) l r
    | false => match Nat.beq (i % 2) 1 with
      | true => .node v (T.put n l (i / 2) o) r
      | false => .node v l (T.put n r (i / 2 - 1) o)
def T.set : T → Nat → O → T
  | .nil, _, _ => .nil
  | .node v l r, i, o => match Nat.beq i 0 with
    | true => .node (some o) l r
    | false => match Nat.beq (i % 2) 1 with
      | true => .node v (l.set (i / 2) o) r
      | false => .node v l (r.set (i / 2 - 1) o)

structure M where
  t : T
  n : Nat
def M.new (m : M) (o : O) : V × M := (.ref m.n, ⟨T.put 40 m.t m.n o, m.n + 1⟩)

inductive BOp where
  | add | sub | mul | div | mod | pow
inductive COp where
  | eq | ne | lt | le | gt | ge | isin | notin
inductive Bi where
  | len | max | abs | int | list | sum
inductive Sk where
  | plain | range | enum | rev
inductive Tg where
  | one (k : Nat) (p : Pos)
  | two (k₁ : Nat) (p₁ : Pos) (k₂ : Nat) (p₂ : Pos) (c : Nat) (p : Pos)

inductive X where
  | var (k : Nat) (p : Pos)
  | int (i : Int) (c : Nat) (p : Pos)
  | none (c : Nat) (p : Pos)
  | bool (b : Bool) (c : Nat) (p : Pos)
  | bin (op : BOp) (l r : X) (p : Pos)
  | neg (x : X) (p : Pos)
  | cmp (op : COp) (l r : X) (p : Pos)
  | ite (t a b : X) (p : Pos)
  | and (l r : X) (p : Pos)
  | or (l r : X) (p : Pos)
  | call (f : Nat) (as : List X) (pf p : Pos)
  | bi (b : Bi) (as : List X) (pf p : Pos)
  | sub (o i : X) (p : Pos)
  | upto (o hi : X) (ps p : Pos)
  | from_ (o lo : X) (ps p : Pos)
  | list (es : List X) (p : Pos)
  | tup (es : List X) (c : Nat) (p : Pos)
  | comp (elt : X) (tg : Tg) (sk : Sk) (sx : List X) (pf ps : Pos) (cond : List X) (sc : Scope) (ns : List Str) (caps : List Nat) (p : Pos)
  | bad

inductive S where
  | asg (k : Nat) (pk : Pos) (x : X) (p : Pos)
  | tup (sw : Bool) (ts : List (Nat × Pos)) (c : Nat) (pt : Pos) (x : X) (p : Pos)
  | seti (o : Nat) (po : Pos) (i : X) (pi : Pos) (x : X) (p : Pos)
  | aug (k : Nat) (pk : Pos) (op : BOp) (x : X) (p : Pos)
  | augi (o : Nat) (po : Pos) (i : X) (pi : Pos) (op : BOp) (x : X) (p : Pos)
  | append (o : Nat) (po pa : Pos) (x : X) (pc p : Pos)
  | expr (x : X) (p : Pos)
  | ite (t : X) (a b : List S) (p : Pos)
  | while_ (t : X) (a : List S) (p : Pos)
  | for_ (tg : Tg) (sk : Sk) (sx : List X) (pf ps : Pos) (body : List S) (p : Pos)
  | ret (x : X) (p : Pos)
  | raw (s : Stmt)

-- back to the program's own words
def BOp.back : BOp → Operator
  | .add => .Add | .sub => .Sub | .mul => .Mult | .div => .FloorDiv | .mod => .Mod | .pow => .Pow
def COp.back : COp → CmpOp
  | .eq => .Eq | .ne => .NotEq | .lt => .Lt | .le => .LtE | .gt => .Gt | .ge => .GtE | .isin => .In | .notin => .NotIn
def Bi.name : Bi → Str
  | .len => "len" | .max => "max" | .abs => "abs" | .int => "int" | .list => "list" | .sum => "sum"
def nth (l : List Str) (k : Nat) : Str := l.getD k ""
def Tg.back (ns : List Str) : Tg → PySem.Expr
  | .one k p => .Name (nth ns k) p
  | .two k₁ p₁ k₂ p₂ c p => .Tuple [.Name (nth ns k₁) p₁, .Name (nth ns k₂) p₂] c p
def srcOf (sk : Sk) (xs : List PySem.Expr) (pf ps : Pos) : PySem.Expr := match sk with
  | .plain => match xs with
    | [x] => x
    | _ => .Constant .none 0 ps
  | .range => .Call (.Name "range" pf) xs [] ps
  | .enum => .Call (.Name "enumerate" pf) xs [] ps
  | .rev => .Call (.Name "reversed" pf) xs [] ps
section
variable (G : List Str)
mutual
def back (ns : List Str) : X → PySem.Expr
  | .var k p => .Name (nth ns k) p
  | .int i c p => .Constant (.int i) c p
  | .none c p => .Constant .none c p
  | .bool b c p => .Constant (.bool b) c p
  | .bin op l r p => .BinOp (back ns l) op.back (back ns r) p
  | .neg x p => .UnaryOp .USub (back ns x) p
  | .cmp op l r p => .Compare (back ns l) [op.back] [back ns r] p
  | .ite t a b p => .IfExp (back ns t) (back ns a) (back ns b) p
  | .and l r p => .BoolOp .And [back ns l, back ns r] p
  | .or l r p => .BoolOp .Or [back ns l, back ns r] p
  | .call f as pf p => .Call (.Name (nth G f) pf) (backs ns as) [] p
  | .bi b as pf p => .Call (.Name b.name pf) (backs ns as) [] p
  | .sub o i p => .Subscript (back ns o) (back ns i) p
  | .upto o hi ps p => .Subscript (back ns o) (.Slice .none (some (back ns hi)) .none ps) p
  | .from_ o lo ps p => .Subscript (back ns o) (.Slice (some (back ns lo)) .none .none ps) p
  | .list es p => .List (backs ns es) p
  | .tup es c p => .Tuple (backs ns es) c p
  | .comp elt tg sk sx pf ps cond sc ns' _ p => .ListComp (back ns' elt) [⟨tg.back ns', srcOf sk (backs ns sx) pf ps, backs ns' cond, 0⟩] sc p
  | .bad => .Constant .none 0 ⟨0, 0, 0, 0⟩
def backs (ns : List Str) : List X → List PySem.Expr
  | [] => []
  | x :: xs => back ns x :: backs ns xs
end
mutual
def backS (ns : List Str) : S → Stmt
  | .asg k pk x p => .Assign [.Name (nth ns k) pk] (back G ns x) p
  | .tup _ ts c pt x p => .Assign [.Tuple (ts.map fun t => .Name (nth ns t.1) t.2) c pt] (back G ns x) p
  | .seti o po i pi x p => .Assign [.Subscript (.Name (nth ns o) po) (back G ns i) pi] (back G ns x) p
  | .aug k pk op x p => .AugAssign (.Name (nth ns k) pk) op.back (back G ns x) p
  | .augi o po i pi op x p => .AugAssign (.Subscript (.Name (nth ns o) po) (back G ns i) pi) op.back (back G ns x) p
  | .append o po pa x pc p => .Expr (.Call (.Attribute (.Name (nth ns o) po) "append" pa) [back G ns x] [] pc) p
  | .expr x p => .Expr (back G ns x) p
  | .ite t a b p => .If (back G ns t) (backSs ns a) (backSs ns b) p
  | .while_ t a p => .While (back G ns t) (backSs ns a) [] p
  | .for_ tg sk sx pf ps body p => .For (tg.back ns) (srcOf sk (backs G ns sx) pf ps) (backSs ns body) [] p
  | .ret x p => .Return (some (back G ns x)) p
  | .raw s => s
def backSs (ns : List Str) : List S → List Stmt
  | [] => []
  | s :: ss => backS ns s :: backSs ns ss
end
end

-- there (no proof hangs on it)
def slot (ns : List Str) (x : Str) : Nat := match ns with
  | [] => 0
  | y :: r => if x = y then 0 else slot r x + 1
def eOp : Operator → Option BOp
  | .Add => some .add | .Sub => some .sub | .Mult => some .mul | .FloorDiv => some .div | .Mod => some .mod | .Pow => some .pow | _ => .none
def eCmp : CmpOp → Option COp
  | .Eq => some .eq | .NotEq => some .ne | .Lt => some .lt | .LtE => some .le | .Gt => some .gt | .GtE => some .ge | .In => some .isin | .NotIn => some .notin | _ => .none
def eBi (x : Str) : Option Bi := if x = "len" then some .len else if x = "max" then some .max else if x = "abs" then some .abs else if x = "int" then some .int else if x = "list" then some .list else if x = "sum" then some .sum else .none
def eTg (ns : List Str) : PySem.Expr → Tg
  | .Name x p => .one (slot ns x) p
  | .Tuple [.Name x p, .Name y q] c pt => .two (slot ns x) p (slot ns y) q c pt
  | _ => .one 1000 ⟨0, 0, 0, 0⟩
def eSrc : PySem.Expr → Sk × List PySem.Expr × Pos × Pos
  | .Call (.Name f pf) as [] p => if f = "range" then (.range, as, pf, p) else if f = "enumerate" then (.enum, as, pf, p) else if f = "reversed" then (.rev, as, pf, p) else (.plain, [.Call (.Name f pf) as [] p], pf, p)
  | e => (.plain, [e], ⟨0, 0, 0, 0⟩, ⟨0, 0, 0, 0⟩)
def swapQ (kind : Str → Option NameKind) (ts vs : List PySem.Expr) : Option (List Str) :=
  if !(ts.length == 2 || ts.length == 3) || vs.length != ts.length then .none
  else if vs.any fun | .Starred .. => true | _ => false then .none
  else
    let line := (ts.head?.map (·.pos.line)).getD 0
    let names := ts.filterMap fun
      | .Name id pos => if kind id == some .local && pos.line == line then some id else .none
      | _ => .none
    if names.length != ts.length || names.eraseDups.length != names.length then .none
    else if vs.all (foldedForSure 8) then .none
    else some names
def eX (G : List Str) : Nat → List Str → PySem.Expr → X
  | 0, _, _ => .bad
  | n + 1, ns, e => match e with
    | .Name x p => .var (slot ns x) p
    | .Constant c k p => match c with
      | .int i => .int i k p
      | .none => .none k p
      | .bool b => .bool b k p
      | _ => .bad
    | .BinOp l op r p => match eOp op with
      | some o => .bin o (eX G n ns l) (eX G n ns r) p
      | _ => .bad
    | .UnaryOp .USub x p => .neg (eX G n ns x) p
    | .Compare l [op] [r] p => match eCmp op with
      | some o => .cmp o (eX G n ns l) (eX G n ns r) p
      | _ => .bad
    | .IfExp t a b p => .ite (eX G n ns t) (eX G n ns a) (eX G n ns b) p
    | .BoolOp .And [l, r] p => .and (eX G n ns l) (eX G n ns r) p
    | .BoolOp .Or [l, r] p => .or (eX G n ns l) (eX G n ns r) p
    | .Call (.Name f pf) as [] p => match eBi f with
      | some b => .bi b (as.map (eX G n ns)) pf p
      | .none => .call (slot G f) (as.map (eX G n ns)) pf p
    | .Subscript o i p => match i with
      | .Slice .none (some hi) .none ps => .upto (eX G n ns o) (eX G n ns hi) ps p
      | .Slice (some lo) .none .none ps => .from_ (eX G n ns o) (eX G n ns lo) ps p
      | _ => .sub (eX G n ns o) (eX G n ns i) p
    | .List es p => .list (es.map (eX G n ns)) p
    | .Tuple es c p => .tup (es.map (eX G n ns)) c p
    | .ListComp elt [⟨tg, it, ifs, _⟩] sc p =>
      let own := (sc.names.filter fun x => x.2 == .local && x.1 != (".0" : Str)).map (·.1)
      let far := (sc.names.filter fun x => x.2 == .free).map (·.1)
      let ns' := own ++ far
      let (sk, sx, pf, ps) := eSrc it
      .comp (eX G n ns' elt) (eTg ns' tg) sk (sx.map (eX G n ns)) pf ps (ifs.map (eX G n ns')) sc ns' (far.map (slot ns)) p
    | _ => .bad
def eS (G : List Str) (sc : Scope) : Nat → List Str → Stmt → S
  | 0, _, s => .raw s
  | n + 1, ns, s => match s with
    | .Assign [t] x p => match t with
      | .Name k pk => .asg (slot ns k) pk (eX G n ns x) p
      | .Tuple ts c pt => .tup (match x with
          | .Tuple vs _ _ => (swapQ (fun y => sc.names.lookup y) ts vs).isSome
          | _ => false) (ts.map fun
          | .Name k q => (slot ns k, q)
          | _ => (1000, pt)) c pt (eX G n ns x) p
      | .Subscript (.Name o po) i pi => .seti (slot ns o) po (eX G n ns i) pi (eX G n ns x) p
      | _ => .raw s
    | .AugAssign (.Name k pk) op x p => match eOp op with
      | some o => .aug (slot ns k) pk o (eX G n ns x) p
      | _ => .raw s
    | .AugAssign (.Subscript (.Name o po) i pi) op x p => match eOp op with
      | some b => .augi (slot ns o) po (eX G n ns i) pi b (eX G n ns x) p
      | _ => .raw s
    | .Expr (.Call (.Attribute (.Name o po) _ pa) [x] [] pc) p => .append (slot ns o) po pa (eX G n ns x) pc p
    | .Expr x p => .expr (eX G n ns x) p
    | .If t a b p => .ite (eX G n ns t) (a.map (eS G sc n ns)) (b.map (eS G sc n ns)) p
    | .While t a [] p => .while_ (eX G n ns t) (a.map (eS G sc n ns)) p
    | .For tg it body [] p =>
      let (sk, sx, pf, ps) := eSrc it
      .for_ (eTg ns tg) sk (sx.map (eX G n ns)) pf ps (body.map (eS G sc n ns)) p
    | .Return (some x) p => .ret (eX G n ns x) p
    | _ => .raw s

section
variable (G : List Str)
def glob (sc : Scope) (x : Str) : Bool := sc.names.lookup x == some .globalImplicit && !(x == ("__debug__" : Str))
def srcG (sc : Scope) : Sk → Bool
  | .plain => true
  | .range => glob sc "range"
  | .enum => glob sc "enumerate"
  | .rev => glob sc "reversed"
def compOk (ns : List Str) (sc : Scope) (sc' : Scope) (ns' : List Str) (caps : List Nat) : Bool :=
  sc'.kind == .function && sc'.names.all (fun x => x.2 != .cell) && sc'.names.all (fun x => x.2 != .local || sc'.names.lookup x.1 == some .local)
  && decide ns'.Nodup && ns'.all (fun x => !(x == ("__debug__" : Str)))
  && Nat.ble caps.length ns'.length && ns'.drop (ns'.length - caps.length) == caps.map (nth ns) && (ns'.take (ns'.length - caps.length)).all (fun x => sc'.names.lookup x == some .local)
  && (sc'.names.filter fun x => x.2 == .free).map (·.1) == caps.map (nth ns)
  && caps.all (fun k => Nat.blt k ns.length && sc.names.lookup (nth ns k) == some .cell && sc'.names.lookup (nth ns k) == some .free)
mutual
def wfX (nest : Bool) (ns : List Str) (sc : Scope) : X → Bool
  | .var _ _ => true
  | .int _ _ _ => true
  | .none _ _ => true
  | .bool _ _ _ => true
  | .bin _ l r _ => wfX nest ns sc l && wfX nest ns sc r
  | .neg x _ => wfX nest ns sc x
  | .cmp _ l r _ => wfX nest ns sc l && wfX nest ns sc r
  | .ite t a b _ => wfX nest ns sc t && wfX nest ns sc a && wfX nest ns sc b
  | .and l r _ => wfX nest ns sc l && wfX nest ns sc r
  | .or l r _ => wfX nest ns sc l && wfX nest ns sc r
  | .call f as _ _ => glob sc (nth G f) && !as.isEmpty && wfXs nest ns sc as
  | .bi b as _ _ => glob sc b.name && !as.isEmpty && wfXs nest ns sc as
  | .sub o i _ => wfX nest ns sc o && wfX nest ns sc i
  | .upto o i _ _ => wfX nest ns sc o && wfX nest ns sc i
  | .from_ o i _ _ => wfX nest ns sc o && wfX nest ns sc i
  | .list es _ => wfXs nest ns sc es
  | .tup es _ _ => wfXs nest ns sc es
  | .comp elt _ sk sx _ _ cond sc' ns' caps _ => nest && srcG sc sk && !sx.isEmpty && wfXs nest ns sc sx && compOk ns sc sc' ns' caps && wfX false ns' sc' elt && wfXs false ns' sc' cond
  | .bad => false
def wfXs (nest : Bool) (ns : List Str) (sc : Scope) : List X → Bool
  | [] => true
  | x :: xs => wfX nest ns sc x && wfXs nest ns sc xs
end
mutual
def wfS (ns : List Str) (sc : Scope) : S → Bool
  | .asg _ _ x _ => wfX G true ns sc x
  | .tup sw ts c pt x _ => wfX G true ns sc x && (match x with
    | .tup es _ _ => !((backs G ns es).all (constantsAlone 8)) && (match swapQ (fun y => sc.names.lookup y) (ts.map fun t => .Name (nth ns t.1) t.2) (backs G ns es) with
      | some names => sw && names == ts.map (fun t => nth ns t.1)
      | .none => !sw)
    | .call .. => !sw
    | _ => false)
  | .seti _ _ i _ x _ => wfX G true ns sc i && wfX G true ns sc x
  | .aug _ _ _ x _ => wfX G true ns sc x
  | .augi _ _ i _ _ x _ => wfX G true ns sc i && wfX G true ns sc x
  | .append _ _ pa x pc _ => wfX G true ns sc x && pa.endLine == pc.line
  | .expr x _ => wfX G true ns sc x
  | .ite t a b _ => wfX G true ns sc t && wfSs ns sc a && wfSs ns sc b
  | .while_ t a _ => wfX G true ns sc t && wfSs ns sc a
  | .for_ _ sk sx _ _ body _ => srcG sc sk && !sx.isEmpty && wfXs G true ns sc sx && wfSs ns sc body
  | .ret x _ => wfX G true ns sc x
  | .raw _ => true
def wfSs (ns : List Str) (sc : Scope) : List S → Bool
  | [] => true
  | s :: ss => wfS ns sc s && wfSs ns sc ss
end
end
end Mine

namespace Mine
open PySem

abbrev E := List (Bool × Option V)
def E.get : E → Nat → Option V
  | [], _ => .none
  | p :: r, k => match k with
    | 0 => p.2
    | k + 1 => E.get r k
def E.set : E → Nat → V → Option E
  | [], _, _ => .none
  | p :: r, k, v => match k with
    | 0 => some ((p.1, some v) :: r)
    | k + 1 => match E.set r k v with
      | some r' => some (p :: r')
      | .none => .none
def E.isCell : E → Nat → Bool
  | [], _ => false
  | p :: r, k => match k with
    | 0 => p.1
    | k + 1 => E.isCell r k
def nthV : List V → Nat → Option V
  | [], _ => .none
  | v :: r, k => match k with
    | 0 => some v
    | k + 1 => nthV r k
def setV : List V → Nat → V → List V
  | [], _, _ => []
  | v :: r, k, x => match k with
    | 0 => x :: r
    | k + 1 => v :: setV r k x
def sm (a : Int) : Bool := Nat.ble a.natAbs 4611686018427387904
def few (n : Nat) : Bool := Nat.ble n 16384

def mapO {α β : Type} (f : α → Option β) : List α → Option (List β)
  | [] => some []
  | x :: xs => match f x with
    | some y => match mapO f xs with
      | some ys => some (y :: ys)
      | .none => .none
    | .none => .none
def dataOf : Nat → T → V → Option PyData
  | 0, _, _ => .none
  | n + 1, t, v => match v with
    | .none => some .none
    | .bool b => some (.bool b)
    | .int i => some (.int i)
    | .ref k => match t.get k with
      | some o => match o with
        | .list vs => match mapO (dataOf n t) vs with
          | some ds => some (.list ds)
          | .none => .none
        | .tup vs => match mapO (dataOf n t) vs with
          | some ds => some (.tuple ds)
          | .none => .none
      | .none => .none

def binI (op : BOp) (a b : Int) : Option Int := match op with
  | .add => some (Int.add a b)
  | .sub => some (Int.sub a b)
  | .mul => match sm a with
    | true => some (Int.mul a b)
    | false => .none
  | .div => match sm a && sm b && !(W.Z.eqB b 0) with
    | true => some (Int.fdiv a b)
    | false => .none
  | .mod => match W.Z.eqB b 0 with
    | true => .none
    | false => some (Int.fmod a b)
  | .pow => match sm a && W.Z.leB 0 b && W.Z.leB b 1000 with
    | true => some (Int.pow a b.toNat)
    | false => .none
def binV (op : BOp) (m : M) (v w : V) : Option (V × M) := match v with
  | .int a => match w with
    | .int b => match binI op a b with
      | some c => some (.int c, m)
      | .none => .none
    | _ => .none
  | .ref j => match m.t.get j with
    | some (.list xs) => match w with
      | .ref k => match op with
        | .add => match m.t.get k with
          | some (.list ys) => match few (xs.length + ys.length) with
            | true => some (m.new (.list (xs ++ ys)))
            | false => .none
          | _ => .none
        | _ => .none
      | .int b => match op with
        | .mul => match sm b && few (xs.length * b.toNat) with
          | true => some (m.new (.list (List.replicate b.toNat xs).flatten))
          | false => .none
        | _ => .none
      | _ => .none
    | _ => .none
  | _ => .none
def hasI (a : Int) : List V → Option Bool
  | [] => some false
  | .int b :: r => match hasI a r with
    | some c => some (W.Z.eqB b a || c)
    | .none => .none
  | _ => .none
def cmpI (op : COp) (a b : Int) : Option Bool := match op with
  | .eq => some (W.Z.eqB a b)
  | .ne => some (!(W.Z.eqB a b))
  | .lt => some (W.Z.ltB a b)
  | .le => some (W.Z.leB a b)
  | .gt => some (W.Z.ltB b a)
  | .ge => some (W.Z.leB b a)
  | _ => .none
def eqD (t : T) (j k : Nat) : Option Bool := match t.get j with
  | some (.list _) => match t.get k with
    | some (.list _) => match dataOf 6 t (.ref j) with
      | some d => match dataOf 6 t (.ref k) with
        | some e => some (PyData.eqv d e)
        | .none => .none
      | .none => .none
    | _ => .none
  | _ => .none
def cmpV (op : COp) (m : M) (v w : V) : Option Bool := match v with
  | .int a => match w with
    | .int b => cmpI op a b
    | .ref k => match m.t.get k with
      | some (.list xs) => match op with
        | .isin => hasI a xs
        | .notin => (hasI a xs).map Bool.not
        | _ => .none
      | some (.tup xs) => match op with
        | .isin => hasI a xs
        | .notin => (hasI a xs).map Bool.not
        | _ => .none
      | _ => .none
    | _ => .none
  | .ref j => match w with
    | .ref k => match op with
      | .eq => eqD m.t j k
      | .ne => (eqD m.t j k).map Bool.not
      | _ => .none
    | _ => .none
  | _ => .none
def sumI : List V → Int → Option Int
  | [], a => some a
  | .int b :: r, a => sumI r (Int.add a b)
  | _, _ => .none
def biV (b : Bi) (m : M) (vs : List V) : Option (V × M) := match b with
  | .len => match vs with
    | [.ref k] => match m.t.get k with
      | some (.list xs) => match few xs.length with
        | true => some (.int (Int.ofNat xs.length), m)
        | false => .none
      | _ => .none
    | _ => .none
  | .max => match vs with
    | [.int a, .int b] => some (.int (match W.Z.ltB a b with | true => b | false => a), m)
    | _ => .none
  | .abs => match vs with
    | [.int a] => some (.int (Int.ofNat a.natAbs), m)
    | _ => .none
  | .int => match vs with
    | [.int a] => some (.int a, m)
    | _ => .none
  | .list => match vs with
    | [.ref k] => match m.t.get k with
      | some (.list xs) => match few xs.length with
        | true => some (m.new (.list xs))
        | false => .none
      | _ => .none
    | _ => .none
  | .sum => match vs with
    | [.ref k] => match m.t.get k with
      | some (.list xs) => match sumI xs 0 with
        | some c => some (.int c, m)
        | .none => .none
      | _ => .none
    | _ => .none
def itemAt (vs : List V) (i : Int) : Option V := match i with
  | .ofNat k => nthV vs k
  | .negSucc k => match Nat.ble (k + 1) vs.length with
    | true => nthV vs (vs.length - (k + 1))
    | false => .none
def subV (m : M) (v w : V) : Option V := match v with
  | .ref k => match w with
    | .int i => match sm i with
      | true => match m.t.get k with
        | some (.list xs) => itemAt xs i
        | some (.tup xs) => match i with
          | .ofNat j => nthV xs j
          | _ => .none
        | .none => .none
      | false => .none
    | _ => .none
  | _ => .none
def uptoV (m : M) (v w : V) : Option (V × M) := match v with
  | .ref k => match w with
    | .int (.ofNat i) => match sm (.ofNat i) with
      | true => match m.t.get k with
        | some (.list xs) => match few xs.length with
          | true => some (m.new (.list (xs.take i)))
          | false => .none
        | _ => .none
      | false => .none
    | _ => .none
  | _ => .none
def fromV (m : M) (v w : V) : Option (V × M) := match v with
  | .ref k => match w with
    | .int (.ofNat i) => match sm (.ofNat i) with
      | true => match m.t.get k with
        | some (.list xs) => match few xs.length with
          | true => some (m.new (.list (xs.drop i)))
          | false => .none
        | _ => .none
      | false => .none
    | _ => .none
  | _ => .none

inductive It where
  | lst (k i : Nat) | enum (k i : Nat) | rev (k c : Nat) | rng (x left step : Int)
inductive Item where
  | v (v : V) | pr (i : Nat) (v : V)
def It.next (it : It) (t : T) : Option (Option (Item × It)) := match it with
  | .lst k i => match t.get k with
    | some (.list vs) => match nthV vs i with
      | some v => some (some (.v v, .lst k (i + 1)))
      | .none => some .none
    | _ => .none
  | .enum k i => match t.get k with
    | some (.list vs) => match nthV vs i with
      | some v => some (some (.pr i v, .enum k (i + 1)))
      | .none => some .none
    | _ => .none
  | .rev k c => match c with
    | 0 => some .none
    | c + 1 => match t.get k with
      | some (.list vs) => match nthV vs c with
        | some v => some (some (.v v, .rev k c))
        | .none => .none
      | _ => .none
  | .rng x left step => match W.Z.leB left 0 with
    | true => some .none
    | false => some (some (.v (.int x), .rng (Int.add x step) (Int.sub left 1) step))
def take (e : E) (tg : Tg) (i : Item) : Option E := match tg with
  | .one k _ => match i with
    | .v v => e.set k v
    | .pr .. => .none
  | .two k₁ _ k₂ _ _ _ => match i with
    | .v _ => .none
    | .pr i v => match Nat.beq k₁ k₂ with
      | true => .none
      | false => match e.set k₁ (.int (Int.ofNat i)) with
        | some e' => e'.set k₂ v
        | .none => .none
def isComp : X → Bool
  | .comp .. => true
  | _ => false
def setAll : E → List (Nat × Pos) → List V → Option E
  | e, [], [] => some e
  | e, t :: ts, v :: vs => match e.set t.1 v with
    | some e' => setAll e' ts vs
    | .none => .none
  | _, _, _ => .none

inductive Fl where
  | next | ret (v : V)
structure FnE where
  np : Nat
  cells : List Bool
  body : List S
structure Rec where
  ev : Nat → E → M → X → Option (V × M)
  tst : Nat → E → M → X → Option (Bool × M)
  exs : Nat → E → M → List S → Option (Fl × E × M)
  whl : Nat → E → M → X → List S → Option (Fl × E × M)
  lop : Nat → E → M → Tg → It → List S → Option (Fl × E × M)
  cpr : Nat → E → M → Tg → It → List X → X → List V → Option (List V × M)

section
variable (P : List FnE) (r : Rec)
def evs (d : Nat) (e : E) : M → List X → Option (List V × M)
  | m, [] => some ([], m)
  | m, x :: xs => match r.ev d e m x with
    | some (v, m) => match evs d e m xs with
      | some (vs, m) => some (v :: vs, m)
      | .none => .none
    | .none => .none
def start (d : Nat) (e : E) (m : M) (sk : Sk) (sx : List X) : Option (It × M) := match sk with
  | .plain => match sx with
    | [x] => match r.ev d e m x with
      | some (.ref k, m) => match m.t.get k with
        | some (.list _) => some (.lst k 0, m)
        | _ => .none
      | _ => .none
    | _ => .none
  | .enum => match sx with
    | [x] => match r.ev d e m x with
      | some (.ref k, m) => match m.t.get k with
        | some (.list _) => some (.enum k 0, m)
        | _ => .none
      | _ => .none
    | _ => .none
  | .rev => match sx with
    | [x] => match r.ev d e m x with
      | some (.ref k, m) => match m.t.get k with
        | some (.list vs) => match few vs.length with
          | true => some (.rev k vs.length, m)
          | false => .none
        | _ => .none
      | _ => .none
    | _ => .none
  | .range => match evs r d e m sx with
    | some ([.int b], m) => match Builtin.Range.small 0 b 1 with
      | true => some (.rng 0 (Builtin.Range.rangeSize 0 b 1) 1, m)
      | false => .none
    | some ([.int a, .int b], m) => match Builtin.Range.small a b 1 with
      | true => some (.rng a (Builtin.Range.rangeSize a b 1) 1, m)
      | false => .none
    | some ([.int a, .int b, .int c], m) => match Builtin.Range.small a b c && W.Z.eqB c (-1) with
      | true => some (.rng a (Builtin.Range.rangeSize a b c) c, m)
      | false => .none
    | _ => .none
def inner (e : E) (caps : List Nat) : List (Bool × Option V) := caps.map fun k => (true, e.get k)
def evStep (d : Nat) (e : E) (m : M) (x : X) : Option (V × M) := match x with
  | .var k _ => match e.get k with
    | some v => some (v, m)
    | .none => .none
  | .int i _ _ => some (.int i, m)
  | .none _ _ => some (.none, m)
  | .bool b _ _ => some (.bool b, m)
  | .bin op l y _ => match r.ev d e m l with
    | some (v, m) => match r.ev d e m y with
      | some (w, m) => binV op m v w
      | .none => .none
    | .none => .none
  | .neg y _ => match r.ev d e m y with
    | some (.int a, m) => some (.int (Int.neg a), m)
    | _ => .none
  | .cmp op l y _ => match r.ev d e m l with
    | some (v, m) => match r.ev d e m y with
      | some (w, m) => match cmpV op m v w with
        | some b => some (.bool b, m)
        | .none => .none
      | .none => .none
    | .none => .none
  | .ite t a b _ => match r.tst d e m t with
    | some (true, m) => r.ev d e m a
    | some (false, m) => r.ev d e m b
    | .none => .none
  | .and l y _ => match r.ev d e m l with
    | some (.bool true, m) => r.ev d e m y
    | some (.bool false, m) => some (.bool false, m)
    | _ => .none
  | .or l y _ => match r.ev d e m l with
    | some (.bool false, m) => r.ev d e m y
    | some (.bool true, m) => some (.bool true, m)
    | _ => .none
  | .call f as _ _ => match d with
    | 0 => .none
    | d + 1 => match P[f]? with
      | some fe => match evs r (d + 1) e m as with
        | some (vs, m) => match Nat.beq vs.length fe.np with
          | true => match r.exs d (fe.cells.zip (vs.map some ++ List.replicate (fe.cells.length - vs.length) .none)) m fe.body with
            | some (.ret v, _, m) => some (v, m)
            | some (.next, _, m) => some (.none, m)
            | .none => .none
          | false => .none
        | .none => .none
      | .none => .none
  | .bi b as _ _ => match evs r d e m as with
    | some (vs, m) => biV b m vs
    | .none => .none
  | .sub o i _ => match r.ev d e m o with
    | some (v, m) => match r.ev d e m i with
      | some (w, m) => match subV m v w with
        | some u => some (u, m)
        | .none => .none
      | .none => .none
    | .none => .none
  | .upto o i _ _ => match r.ev d e m o with
    | some (v, m) => match r.ev d e m i with
      | some (w, m) => uptoV m v w
      | .none => .none
    | .none => .none
  | .from_ o i _ _ => match r.ev d e m o with
    | some (v, m) => match r.ev d e m i with
      | some (w, m) => fromV m v w
      | .none => .none
    | .none => .none
  | .list es _ => match evs r d e m es with
    | some (vs, m) => match few vs.length with
      | true => some (m.new (.list vs))
      | false => .none
    | .none => .none
  | .tup es _ _ => match evs r d e m es with
    | some (vs, m) => match few vs.length with
      | true => some (m.new (.tup vs))
      | false => .none
    | .none => .none
  | .comp elt tg sk sx _ _ cond _ ns caps _ => match start r d e m sk sx with
    | some (it, m) => match r.cpr d (List.replicate (ns.length - caps.length) (false, .none) ++ inner e caps) m tg it cond elt [] with
      | some (vs, m) => some (m.new (.list vs))
      | .none => .none
    | .none => .none
  | .bad => .none
def tstStep (d : Nat) (e : E) (m : M) (x : X) : Option (Bool × M) := match x with
  | .cmp op l y _ => match r.ev d e m l with
    | some (v, m) => match r.ev d e m y with
      | some (w, m) => match cmpV op m v w with
        | some b => some (b, m)
        | .none => .none
      | .none => .none
    | .none => .none
  | .and l y _ => match r.tst d e m l with
    | some (true, m) => r.tst d e m y
    | some (false, m) => some (false, m)
    | .none => .none
  | .or l y _ => match r.tst d e m l with
    | some (false, m) => r.tst d e m y
    | some (true, m) => some (true, m)
    | .none => .none
  | _ => .none
def exStep (d : Nat) (e : E) (m : M) (s : S) : Option (Fl × E × M) := match s with
  | .asg k _ x _ => match isComp x && !(e.isCell k) with
    | true => .none
    | false => match r.ev d e m x with
      | some (v, m) => match e.set k v with
        | some e => some (.next, e, m)
        | .none => .none
      | .none => .none
  | .tup sw ts _ _ x _ => match r.ev d e m x with
    | some (.ref k, m) => match m.t.get k with
      | some (.tup vs) => match (match sw with | true => (match Nat.beq ts.length vs.length with | true => setAll e ts.reverse vs.reverse | false => .none) | false => setAll e ts vs) with
        | some e => some (.next, e, m)
        | .none => .none
      | _ => .none
    | _ => .none
  | .seti o _ i _ x _ => match r.ev d e m x with
    | some (v, m) => match e.get o with
      | some (.ref k) => match r.ev d e m i with
        | some (.int (.ofNat j), m) => match m.t.get k with
          | some (.list vs) => match Nat.blt j vs.length && sm (.ofNat j) with
            | true => some (.next, e, ⟨m.t.set k (.list (setV vs j v)), m.n⟩)
            | false => .none
          | _ => .none
        | _ => .none
      | _ => .none
    | .none => .none
  | .aug k _ op x _ => match e.get k with
    | some (.int a) => match r.ev d e m x with
      | some (.int b, m) => match op with
        | .add => match e.set k (.int (Int.add a b)) with
          | some e => some (.next, e, m)
          | .none => .none
        | .sub => match e.set k (.int (Int.sub a b)) with
          | some e => some (.next, e, m)
          | .none => .none
        | _ => .none
      | _ => .none
    | _ => .none
  | .augi o _ i _ op x _ => match e.get o with
    | some (.ref k) => match r.ev d e m i with
      | some (.int (.ofNat j), m) => match m.t.get k with
        | some (.list vs) => match nthV vs j with
          | some (.int a) => match sm (.ofNat j) with
            | true => match r.ev d e m x with
              | some (.int b, m) => match op with
                | .add => match m.t.get k with
                  | some (.list vs) => match Nat.blt j vs.length with
                    | true => some (.next, e, ⟨m.t.set k (.list (setV vs j (.int (Int.add a b)))), m.n⟩)
                    | false => .none
                  | _ => .none
                | _ => .none
              | _ => .none
            | false => .none
          | _ => .none
        | _ => .none
      | _ => .none
    | _ => .none
  | .append o _ _ x _ _ => match e.get o with
    | some (.ref k) => match m.t.get k with
      | some (.list _) => match r.ev d e m x with
        | some (v, m) => match m.t.get k with
          | some (.list vs) => match few vs.length with
            | true => some (.next, e, ⟨m.t.set k (.list (vs ++ [v])), m.n⟩)
            | false => .none
          | _ => .none
        | .none => .none
      | _ => .none
    | _ => .none
  | .expr x _ => match x with
    | .call .. => match r.ev d e m x with
      | some (.none, m) => some (.next, e, m)
      | _ => .none
    | _ => .none
  | .ite t a b _ => match r.tst d e m t with
    | some (true, m) => r.exs d e m a
    | some (false, m) => r.exs d e m b
    | .none => .none
  | .while_ t a _ => r.whl d e m t a
  | .for_ tg sk sx _ _ body _ => match start r d e m sk sx with
    | some (it, m) => r.lop d e m tg it body
    | .none => .none
  | .ret x _ => match r.ev d e m x with
    | some (v, m) => some (.ret v, e, m)
    | .none => .none
  | .raw _ => .none
def exsStep (d : Nat) (e : E) (m : M) (ss : List S) : Option (Fl × E × M) := match ss with
  | [] => some (.next, e, m)
  | s :: ss => match exStep r d e m s with
    | some (.next, e, m) => r.exs d e m ss
    | some (.ret v, e, m) => some (.ret v, e, m)
    | .none => .none
def whlStep (d : Nat) (e : E) (m : M) (t : X) (a : List S) : Option (Fl × E × M) := match r.tst d e m t with
  | some (true, m) => match r.exs d e m a with
    | some (.next, e, m) => r.whl d e m t a
    | some (.ret v, e, m) => some (.ret v, e, m)
    | .none => .none
  | some (false, m) => some (.next, e, m)
  | .none => .none
def lopStep (d : Nat) (e : E) (m : M) (tg : Tg) (it : It) (a : List S) : Option (Fl × E × M) := match it.next m.t with
  | some (some (i, it)) => match take e tg i with
    | some e => match r.exs d e m a with
      | some (.next, e, m) => r.lop d e m tg it a
      | some (.ret v, e, m) => some (.ret v, e, m)
      | .none => .none
    | .none => .none
  | some .none => some (.next, e, m)
  | .none => .none
def tgl (e : E) : Tg → Bool
  | .one k _ => !e.isCell k
  | .two k _ k' _ _ _ => !e.isCell k && !e.isCell k'
def cprStep (d : Nat) (e : E) (m : M) (tg : Tg) (it : It) (cond : List X) (elt : X) (acc : List V) : Option (List V × M) := match it.next m.t with
  | some (some (i, it)) => match (match tgl e tg with | true => take e tg i | false => .none) with
    | some e => match cond with
      | [] => match r.ev d e m elt with
        | some (v, m) => match few acc.length with
          | true => r.cpr d e m tg it cond elt (acc ++ [v])
          | false => .none
        | .none => .none
      | [c] => match r.tst d e m c with
        | some (true, m) => match r.ev d e m elt with
          | some (v, m) => match few acc.length with
            | true => r.cpr d e m tg it cond elt (acc ++ [v])
            | false => .none
          | .none => .none
        | some (false, m) => r.cpr d e m tg it cond elt acc
        | .none => .none
      | _ => .none
    | .none => .none
  | some .none => some (acc, m)
  | .none => .none
end
def bot : Rec := ⟨fun _ _ _ _ => .none, fun _ _ _ _ => .none, fun _ _ _ _ => .none, fun _ _ _ _ _ => .none, fun _ _ _ _ _ _ => .none, fun _ _ _ _ _ _ _ _ => .none⟩
def step (P : List FnE) (r : Rec) : Rec := ⟨evStep P r, tstStep r, exsStep r, whlStep r, lopStep r, cprStep r⟩
def go (P : List FnE) : Nat → Rec
  | 0 => bot
  | n + 1 => step P (go P n)
end Mine

namespace Mine
open PySem

structure Df where
  name : Str
  args : Arguments
  body : List Stmt
  scope : Scope
def dfs : List Stmt → List Df
  | [] => []
  | .FunctionDef name args body _ _ _ scope _ _ _ :: r => ⟨name, args, body, scope⟩ :: dfs r
  | _ :: r => dfs r
def D : List Df := dfs Challenge.pw_xm0147_01.main.body
def G : List Str := D.map (·.name)
def Df.params (d : Df) : List Str := d.args.args.map (·.arg)
def Df.names (d : Df) : List Str := d.params ++ (d.scope.names.filter fun x => (x.2 == .local || x.2 == .cell) && !(d.params.contains x.1)).map (·.1)
def Df.fe (d : Df) : FnE := ⟨d.params.length, d.names.map fun x => d.scope.names.lookup x == some .cell, d.body.map (eS G d.scope 60 d.names)⟩
def P : List FnE := D.map Df.fe

def fx (s : String) : Nat := slot G (Str.ofString s)
def callF (n : Nat) (f : Nat) (args : List V) : Option (V × M) := (go P (n + 1)).ev 20 (args.map fun v => (false, some v)) ⟨.nil, 0⟩
  (.call f ((List.range args.length).map fun i => .var i ⟨0,0,0,0⟩) ⟨0,0,0,0⟩ ⟨0,0,0,0⟩)
def isT : Option (V × M) → Bool
  | some (.bool true, _) => true
  | _ => false
def size : Option (V × M) → Nat
  | some (_, m) => m.n
  | _ => 0
end Mine

namespace Mine
open PySem PySem.W PyProof.Rows

-- the store's laws
theorem get_node (v : Option O) (l r : T) (i : Nat) : (T.node v l r).get i = if i = 0 then v else if i % 2 = 1 then l.get (i / 2) else r.get (i / 2 - 1) := by
  show (match Nat.beq i 0 with | true => v | false => match Nat.beq (i % 2) 1 with | true => l.get (i / 2) | false => r.get (i / 2 - 1)) = _
  rw [BT.beq_eq, BT.beq_eq]
  by_cases h : i = 0
  · simp [h]
  · by_cases q : i % 2 = 1 <;> simp [h, q]
theorem T.get_nil (i : Nat) : T.nil.get i = .none := rfl
theorem T.put_get : ∀ (n : Nat) (t : T) (i : Nat) (o : O) (j : Nat) (o' : O), (T.put n t i o).get j = some o' → (j = i ∧ o' = o) ∨ t.get j = some o'
  | 0, _, _, _, _, _, h => .inr h
  | n + 1, .nil, i, o, j, o', h => by
    unfold T.put at h
    rw [BT.beq_eq, BT.beq_eq] at h
    by_cases h0 : i = 0
    · subst h0
      simp only [decide_true] at h
      rw [get_node] at h
      by_cases j0 : j = 0
      · subst j0; rw [if_pos rfl] at h; cases h; exact .inl ⟨rfl, rfl⟩
      · rw [if_neg j0] at h
        split at h <;> cases h
    · rw [decide_eq_false h0] at h
      by_cases p : i % 2 = 1
      · rw [decide_eq_true p] at h
        simp only at h
        rw [get_node] at h
        by_cases j0 : j = 0
        · subst j0; rw [if_pos rfl] at h; cases h
        · rw [if_neg j0] at h
          by_cases q : j % 2 = 1
          · rw [if_pos q] at h
            rcases T.put_get n .nil _ o _ o' h with ⟨e, e'⟩ | e
            · exact .inl ⟨by omega, e'⟩
            · cases e
          · rw [if_neg q] at h; cases h
      · rw [decide_eq_false p] at h
        simp only at h
        rw [get_node] at h
        by_cases j0 : j = 0
        · subst j0; rw [if_pos rfl] at h; cases h
        · rw [if_neg j0] at h
          by_cases q : j % 2 = 1
          · rw [if_pos q] at h; cases h
          · rw [if_neg q] at h
            rcases T.put_get n .nil _ o _ o' h with ⟨e, e'⟩ | e
            · exact .inl ⟨by omega, e'⟩
            · cases e
  | n + 1, .node v l r, i, o, j, o', h => by
    unfold T.put at h
    rw [BT.beq_eq, BT.beq_eq] at h
    rw [get_node]
    by_cases h0 : i = 0
    · subst h0
      simp only [decide_true] at h
      rw [get_node] at h
      by_cases j0 : j = 0
      · subst j0; rw [if_pos rfl] at h; cases h; exact .inl ⟨rfl, rfl⟩
      · rw [if_neg j0] at h ⊢; exact .inr h
    · rw [decide_eq_false h0] at h
      by_cases p : i % 2 = 1
      · rw [decide_eq_true p] at h
        simp only at h
        rw [get_node] at h
        by_cases j0 : j = 0
        · rw [if_pos j0] at h ⊢; exact .inr h
        · rw [if_neg j0] at h ⊢
          by_cases q : j % 2 = 1
          · rw [if_pos q] at h ⊢
            rcases T.put_get n l _ o _ o' h with ⟨e, e'⟩ | e
            · exact .inl ⟨by omega, e'⟩
            · exact .inr e
          · rw [if_neg q] at h ⊢; exact .inr h
      · rw [decide_eq_false p] at h
        simp only at h
        rw [get_node] at h
        by_cases j0 : j = 0
        · rw [if_pos j0] at h ⊢; exact .inr h
        · rw [if_neg j0] at h ⊢
          by_cases q : j % 2 = 1
          · rw [if_pos q] at h ⊢; exact .inr h
          · rw [if_neg q] at h ⊢
            rcases T.put_get n r _ o _ o' h with ⟨e, e'⟩ | e
            · exact .inl ⟨by omega, e'⟩
            · exact .inr e
theorem T.set_get : ∀ (t : T) (i : Nat) (o : O) (j : Nat) (o' : O), (t.set i o).get j = some o' → (j = i ∧ o' = o) ∨ (j ≠ i ∧ t.get j = some o')
  | .nil, _, _, _, _, h => by cases h
  | .node v l r, i, o, j, o', h => by
    unfold T.set at h
    rw [BT.beq_eq, BT.beq_eq] at h
    rw [get_node]
    by_cases h0 : i = 0
    · subst h0
      simp only [decide_true] at h
      rw [get_node] at h
      by_cases j0 : j = 0
      · subst j0; rw [if_pos rfl] at h; cases h; exact .inl ⟨rfl, rfl⟩
      · rw [if_neg j0] at h ⊢; exact .inr ⟨j0, h⟩
    · rw [decide_eq_false h0] at h
      by_cases p : i % 2 = 1
      · rw [decide_eq_true p] at h
        simp only at h
        rw [get_node] at h
        by_cases j0 : j = 0
        · rw [if_pos j0] at h ⊢; exact .inr ⟨by omega, h⟩
        · rw [if_neg j0] at h ⊢
          by_cases q : j % 2 = 1
          · rw [if_pos q] at h ⊢
            rcases T.set_get l _ o _ o' h with ⟨e, e'⟩ | ⟨e, e'⟩
            · exact .inl ⟨by omega, e'⟩
            · exact .inr ⟨by omega, e'⟩
          · rw [if_neg q] at h ⊢; exact .inr ⟨by omega, h⟩
      · rw [decide_eq_false p] at h
        simp only at h
        rw [get_node] at h
        by_cases j0 : j = 0
        · rw [if_pos j0] at h ⊢; exact .inr ⟨by omega, h⟩
        · rw [if_neg j0] at h ⊢
          by_cases q : j % 2 = 1
          · rw [if_pos q] at h ⊢; exact .inr ⟨by omega, h⟩
          · rw [if_neg q] at h ⊢
            rcases T.set_get r _ o _ o' h with ⟨e, e'⟩ | ⟨e, e'⟩
            · exact .inl ⟨by omega, e'⟩
            · exact .inr ⟨by omega, e'⟩

-- values and objects
def VR (ρ : List Addr) : V → Value → Prop
  | .none, w => w = .none
  | .bool b, w => w = .bool b
  | .int i, w => ∃ t, w = .int i t
  | .ref k, w => ∃ a, ρ[k]? = some a ∧ w = .ref a
inductive VRs (ρ : List Addr) : List V → List Value → Prop
  | nil : VRs ρ [] []
  | cons {v : V} {w : Value} {vs : List V} {ws : List Value} : VR ρ v w → VRs ρ vs ws → VRs ρ (v :: vs) (w :: ws)
def OR (h : Heap) (ρ : List Addr) (a : Addr) : O → Prop
  | .list vs => ∃ ws n, h.get? a = some { cls := .type "list", data := .seq (List.toArray ws) n } ∧ VRs ρ vs ws
  | .tup vs => ∃ ws n, h.get? a = some { cls := .type "tuple", data := .seq (List.toArray ws) n } ∧ VRs ρ vs ws

theorem VR.mono {ρ ν : List Addr} : ∀ {v : V} {w : Value}, VR ρ v w → VR (ρ ++ ν) v w
  | .none, _, h => h
  | .bool _, _, h => h
  | .int _, _, h => h
  | .ref _, _, ⟨a, e, h⟩ => ⟨a, by rw [List.getElem?_append_left (List.getElem?_eq_some_iff.mp e).1]; exact e, h⟩
theorem VRs.mono {ρ ν : List Addr} : ∀ {v : List V} {w : List Value}, VRs ρ v w → VRs (ρ ++ ν) v w
  | _, _, .nil => .nil
  | _, _, .cons h r => .cons h.mono r.mono
theorem VRs.length {ρ : List Addr} : ∀ {v : List V} {w : List Value}, VRs ρ v w → v.length = w.length
  | _, _, .nil => rfl
  | _, _, .cons _ r => by rw [List.length_cons, List.length_cons, r.length]
theorem VRs.nth {ρ : List Addr} : ∀ {vs : List V} {ws : List Value}, VRs ρ vs ws → ∀ {k : Nat} {v : V}, nthV vs k = some v → ∃ w, ws[k]? = some w ∧ VR ρ v w
  | _, _, .nil, _, _, e => by cases e
  | _, _, .cons h r, 0, _, e => by cases e; exact ⟨_, rfl, h⟩
  | _, _, .cons h r, k + 1, _, e => r.nth e
theorem VRs.nth_none {ρ : List Addr} : ∀ {vs : List V} {ws : List Value}, VRs ρ vs ws → ∀ {k : Nat}, nthV vs k = .none → ws[k]? = none
  | _, _, .nil, _, _ => by simp
  | _, _, .cons h r, 0, e => by cases e
  | _, _, .cons h r, k + 1, e => by simpa using r.nth_none e
theorem VRs.append {ρ : List Addr} : ∀ {v v' : List V} {w w' : List Value}, VRs ρ v w → VRs ρ v' w' → VRs ρ (v ++ v') (w ++ w')
  | _, _, _, _, .nil, r => r
  | _, _, _, _, .cons h q, r => .cons h (q.append r)
theorem VRs.set {ρ : List Addr} : ∀ {vs : List V} {ws : List Value}, VRs ρ vs ws → ∀ {k : Nat} {v : V} {w : Value}, VR ρ v w → VRs ρ (setV vs k v) (ws.set k w)
  | _, _, .nil, _, _, _, _ => .nil
  | _, _, .cons h r, 0, _, _, e => .cons e r
  | _, _, .cons h r, k + 1, _, _, e => .cons h (r.set e)
theorem VRs.take {ρ : List Addr} : ∀ {vs : List V} {ws : List Value}, VRs ρ vs ws → ∀ (k : Nat), VRs ρ (vs.take k) (ws.take k)
  | _, _, .nil, k => by cases k <;> exact .nil
  | _, _, .cons h r, 0 => .nil
  | _, _, .cons h r, k + 1 => .cons h (r.take k)
theorem VRs.drop {ρ : List Addr} : ∀ {vs : List V} {ws : List Value}, VRs ρ vs ws → ∀ (k : Nat), VRs ρ (vs.drop k) (ws.drop k)
  | _, _, .nil, k => by cases k <;> exact .nil
  | _, _, .cons h r, 0 => .cons h r
  | _, _, .cons h r, k + 1 => r.drop k
theorem VRs.rep {ρ : List Addr} {vs : List V} {ws : List Value} (h : VRs ρ vs ws) : ∀ n : Nat, VRs ρ (List.replicate n vs).flatten (List.replicate n ws).flatten
  | 0 => .nil
  | n + 1 => by rw [List.replicate_succ, List.replicate_succ, List.flatten_cons, List.flatten_cons]; exact h.append (h.rep n)
theorem OR.mono {h : Heap} {ρ ν : List Addr} {a : Addr} : ∀ {o : O}, OR h ρ a o → OR h (ρ ++ ν) a o
  | .list _, ⟨ws, n, e, r⟩ => ⟨ws, n, e, r.mono⟩
  | .tup _, ⟨ws, n, e, r⟩ => ⟨ws, n, e, r.mono⟩
theorem OR.keep {h h' : Heap} {ρ : List Addr} {a : Addr} (k : ∀ o, h.get? a = some o → h'.get? a = some o) : ∀ {o : O}, OR h ρ a o → OR h' ρ a o
  | .list _, ⟨ws, n, e, r⟩ => ⟨ws, n, k _ e, r⟩
  | .tup _, ⟨ws, n, e, r⟩ => ⟨ws, n, k _ e, r⟩

-- the state
structure Sto (h : Heap) (ρ : List Addr) (m : M) : Prop where
  n : m.n = ρ.length
  nd : ρ.Nodup
  at_ : ∀ k o, m.t.get k = some o → ∃ a, ρ[k]? = some a ∧ OR h ρ a o
  live : ∀ a ∈ ρ, ∃ o, h.get? a = some o
structure Base (hb : Heap) (h : Heap) (ρ : List Addr) : Prop where
  keep : ∀ b o, hb.get? b = some o → h.get? b = some o
  sep : ∀ a ∈ ρ, hb.get? a = none
def Slot (env : Env) (h : Heap) (ρ : List Addr) (mm : Str → Option Value) (x : Str) : Bool × Option V → Prop
  | (false, ov) => env.kindOf x = some .local ∧ ∀ v, ov = some v → ∃ w, mm x = some w ∧ VR ρ v w
  | (true, ov) => env.kindOf x = some .cell ∧ ∃ c u, env.cells.lookup x = some c ∧ h.IsCell c u ∧ ∀ v, ov = some v → ∃ w, u = some w ∧ VR ρ v w
inductive Slots (env : Env) (h : Heap) (ρ : List Addr) (mm : Str → Option Value) : List Str → E → Prop
  | nil : Slots env h ρ mm [] []
  | cons {x : Str} {p : Bool × Option V} {ns : List Str} {e : E} : Slot env h ρ mm x p → Slots env h ρ mm ns e → Slots env h ρ mm (x :: ns) (p :: e)
structure EnvR (env : Env) (sc : Scope) (ns : List Str) (e : E) (ρ : List Addr) (h : Heap) : Prop where
  fn : env.scope.kind = .function
  gl : env.globals = mainGlobals
  bi : env.builtins = builtinsNs
  gi : ∀ x, sc.names.lookup x = some .globalImplicit → env.kindOf x = some .globalImplicit
  kc : ∀ x, sc.names.lookup x = some .cell → env.kindOf x = some .cell
  dbg : ∀ x ∈ ns, (x == ("__debug__" : Str)) = false
  nd : ns.Nodup
  loc : env.locals ∉ ρ
  cel : ∀ x c, env.cells.lookup x = some c → c ∉ ρ ∧ c ≠ env.locals ∧ ∃ u, h.IsCell c u
  apart : ∀ x y c, env.cells.lookup x = some c → env.cells.lookup y = some c → x = y
  vars : ∃ mm, h.Ns env.locals mm ∧ Slots env h ρ mm ns e
def Near (env : Env) (b : Addr) : Prop := b = env.locals ∨ ∃ x, env.cells.lookup x = some b
def Own (env : Env) (b : Addr) : Prop := b = env.locals ∨ (env.func.isSome = true ∧ ∃ x, env.cells.lookup x = some b)
theorem Own.near {env : Env} {b : Addr} : Own env b → Near env b := Or.imp id And.right
structure St (hb : Heap) (env : Env) (sc : Scope) (ns : List Str) (e : E) (ρ : List Addr) (m : M) (h : Heap) : Prop where
  sto : Sto h ρ m
  base : Base hb h ρ
  own : ∀ b, Near env b → hb.get? b = none
  env : EnvR env sc ns e ρ h
structure Ext (ρ : List Addr) (h : Heap) (ρ' : List Addr) (h' : Heap) : Prop where
  pre : ∃ ν, ρ' = ρ ++ ν ∧ ∀ a ∈ ν, h.get? a = none
  keep : ∀ b o, h.get? b = some o → b ∉ ρ → h'.get? b = some o
theorem Ext.refl (ρ : List Addr) (h : Heap) : Ext ρ h ρ h := ⟨⟨[], (List.append_nil _).symm, fun _ q => nomatch q⟩, fun _ _ e _ => e⟩
theorem Ext.trans {ρ ρ₁ ρ₂ : List Addr} {h h₁ h₂ : Heap} (x : Ext ρ h ρ₁ h₁) (l : ∀ a ∈ ρ, ∃ o, h₁.get? a = some o) (y : Ext ρ₁ h₁ ρ₂ h₂) : Ext ρ h ρ₂ h₂ := by
  obtain ⟨ν, rfl, hν⟩ := x.pre
  obtain ⟨μ, rfl, hμ⟩ := y.pre
  refine ⟨⟨ν ++ μ, by rw [List.append_assoc], fun a ha => ?_⟩, fun b o e hb => y.keep b o (x.keep b o e hb) fun q => ?_⟩
  · rcases List.mem_append.mp ha with q | q
    · exact hν a q
    · cases r : h.get? a with
      | none => rfl
      | some o =>
        by_cases ha' : a ∈ ρ
        · obtain ⟨o', l⟩ := l a ha'
          rw [hμ a q] at l; cases l
        · have z := x.keep a o r ha'
          rw [hμ a q] at z; cases z
  · rcases List.mem_append.mp q with q | q
    · exact hb q
    · rw [hν b q] at e; cases e
theorem Sto.live' {h : Heap} {ρ ν : List Addr} {m : M} (x : Sto h (ρ ++ ν) m) : ∀ a ∈ ρ, ∃ o, h.get? a = some o := fun a q => x.live a (List.mem_append_left _ q)
theorem Ext.sub {ρ ρ' : List Addr} {h h' : Heap} {m : M} (x : Ext ρ h ρ' h') (s : Sto h' ρ' m) : ∀ a ∈ ρ, ∃ o, h'.get? a = some o := by
  obtain ⟨ν, rfl, _⟩ := x.pre
  exact s.live'
theorem Ext.vr {ρ ρ' : List Addr} {h h' : Heap} (x : Ext ρ h ρ' h') {v : V} {w : Value} (q : VR ρ v w) : VR ρ' v w := by
  obtain ⟨ν, rfl, _⟩ := x.pre
  exact q.mono
theorem Ext.vrs {ρ ρ' : List Addr} {h h' : Heap} (x : Ext ρ h ρ' h') {v : List V} {w : List Value} (q : VRs ρ v w) : VRs ρ' v w := by
  obtain ⟨ν, rfl, _⟩ := x.pre
  exact q.mono
theorem Slot.ext {env : Env} {h h' : Heap} {ρ ρ' : List Addr} {mm : Str → Option Value} (x : Ext ρ h ρ' h') (cel : ∀ x c, env.cells.lookup x = some c → c ∉ ρ) {n : Str} : ∀ {p : Bool × Option V}, Slot env h ρ mm n p → Slot env h' ρ' mm n p
  | (false, ov), ⟨k, q⟩ => ⟨k, fun v e => let ⟨w, e', r⟩ := q v e; ⟨w, e', x.vr r⟩⟩
  | (true, ov), ⟨k, c, u, l, ⟨o, ho, hd⟩, q⟩ => ⟨k, c, u, l, ⟨o, x.keep c o ho (cel _ c l), hd⟩, fun v e => let ⟨w, e', r⟩ := q v e; ⟨w, e', x.vr r⟩⟩
theorem Slots.ext {env : Env} {h h' : Heap} {ρ ρ' : List Addr} {mm : Str → Option Value} (x : Ext ρ h ρ' h') (cel : ∀ x c, env.cells.lookup x = some c → c ∉ ρ) : ∀ {ns : List Str} {e : E}, Slots env h ρ mm ns e → Slots env h' ρ' mm ns e
  | _, _, .nil => .nil
  | _, _, .cons a r => .cons (a.ext x cel) (r.ext x cel)
theorem EnvR.ext {env : Env} {sc : Scope} {ns : List Str} {e : E} {h h' : Heap} {ρ ρ' : List Addr} (x : Ext ρ h ρ' h') (r : EnvR env sc ns e ρ h) : EnvR env sc ns e ρ' h' := by
  obtain ⟨ν, rfl, hν⟩ := x.pre
  have fresh : ∀ b o, h.get? b = some o → b ∉ ρ → b ∉ ρ ++ ν := fun b o e hb q => by
    rcases List.mem_append.mp q with q | q
    · exact hb q
    · rw [hν b q] at e; cases e
  obtain ⟨mm, ⟨o, es, ep, ho, hr⟩, hs⟩ := r.vars
  refine ⟨r.fn, r.gl, r.bi, r.gi, r.kc, r.dbg, r.nd, fresh _ _ ho r.loc, fun y c l => ?_, r.apart, mm, ⟨o, es, ep, x.keep _ _ ho r.loc, hr⟩, hs.ext x fun y c l => (r.cel y c l).1⟩
  obtain ⟨q, ne, u, oc, hoc, hd⟩ := r.cel y c l
  exact ⟨fresh c oc hoc q, ne, u, oc, x.keep c oc hoc q, hd⟩
theorem none_size (h : Heap) : h.get? h.objs.size = none := by
  cases e : h.get? h.objs.size with
  | none => rfl
  | some o => exact absurd (Heap.lt_size e) (Nat.lt_irrefl _)
section
variable {hb : Heap} {env : Env} {sc : Scope} {ns : List Str} {e : E} {ρ : List Addr} {m : M} {h h' : Heap}
theorem Ext.of_keep (k : ∀ b o, h.get? b = some o → h'.get? b = some o) : Ext ρ h ρ h' := ⟨⟨[], (List.append_nil _).symm, fun _ q => nomatch q⟩, fun b o e _ => k b o e⟩
theorem Sto.keep (s : Sto h ρ m) (k : ∀ b o, b ∈ ρ → h.get? b = some o → h'.get? b = some o) : Sto h' ρ m :=
  ⟨s.n, s.nd, fun i o q => let ⟨a, r, z⟩ := s.at_ i o q; ⟨a, r, z.keep fun o' => k a o' (List.mem_of_getElem? r)⟩, fun a q => let ⟨o, r⟩ := s.live a q; ⟨o, k a o q r⟩⟩
theorem Base.ext {ρ' : List Addr} (x : Ext ρ h ρ' h') (b : Base hb h ρ) : Base hb h' ρ' := by
  obtain ⟨ν, rfl, hν⟩ := x.pre
  refine ⟨fun a o q => x.keep a o (b.keep a o q) fun z => ?_, fun a q => ?_⟩
  · rw [b.sep a z] at q; cases q
  · rcases List.mem_append.mp q with q | q
    · exact b.sep a q
    · cases r : hb.get? a with
      | none => rfl
      | some o => have := b.keep a o r; rw [hν a q] at this; cases this
theorem St.keep (s : St hb env sc ns e ρ m h) (k : ∀ b o, h.get? b = some o → h'.get? b = some o) : St hb env sc ns e ρ m h' :=
  ⟨s.sto.keep fun b o _ => k b o, s.base.ext (.of_keep k), s.own, s.env.ext (.of_keep k)⟩
theorem St.ext {ρ' : List Addr} {m' : M} (s : St hb env sc ns e ρ m h) (x : Ext ρ h ρ' h') (t : Sto h' ρ' m') : St hb env sc ns e ρ' m' h' := ⟨t, s.base.ext x, s.own, s.env.ext x⟩

/-- a new object of the store, at an address that the elder heap does not bear -/
theorem Sto.new (s : Sto h ρ m) {a : Addr} (ha : h.get? a = none) (k : ∀ b o, h.get? b = some o → h'.get? b = some o) {o : O} (ho : OR h' ρ a o) : Sto h' (ρ ++ [a]) (m.new o).2 := by
  have hn : a ∉ ρ := fun q => by obtain ⟨o, r⟩ := s.live a q; rw [ha] at r; cases r
  have la : ∃ o', h'.get? a = some o' := by
    cases o with
    | list => obtain ⟨_, _, q, _⟩ := ho; exact ⟨_, q⟩
    | tup => obtain ⟨_, _, q, _⟩ := ho; exact ⟨_, q⟩
  refine ⟨?_, List.nodup_append.mpr ⟨s.nd, (by simp), fun x hx y hy q => ?_⟩, fun i o' q => ?_, fun b q => ?_⟩
  · show m.n + 1 = _
    rw [List.length_append, List.length_singleton, s.n]
  · rw [List.mem_singleton.mp hy] at q; subst q; exact hn hx
  · rcases T.put_get _ _ _ _ _ _ q with ⟨rfl, rfl⟩ | q
    · exact ⟨a, by rw [s.n, List.getElem?_append_right (Nat.le_refl _), Nat.sub_self]; rfl, ho.mono⟩
    · obtain ⟨b, r, z⟩ := s.at_ i o' q
      exact ⟨b, by rw [List.getElem?_append_left (List.getElem?_eq_some_iff.mp r).1]; exact r, (z.keep fun o => k b o).mono⟩
  · rcases List.mem_append.mp q with q | q
    · obtain ⟨o', r⟩ := s.live b q; exact ⟨o', k b o' r⟩
    · rw [List.mem_singleton.mp q]; exact la
theorem Ext.new {a : Addr} (ha : h.get? a = none) (k : ∀ b o, h.get? b = some o → h'.get? b = some o) : Ext ρ h (ρ ++ [a]) h' :=
  ⟨⟨[a], rfl, fun b q => by rw [List.mem_singleton.mp q]; exact ha⟩, fun b o q _ => k b o q⟩
theorem VR.new (s : Sto h ρ m) {a : Addr} (o : O) : VR (ρ ++ [a]) (m.new o).1 (.ref a) := ⟨a, by
  show (ρ ++ [a])[m.n]? = some a
  rw [s.n, List.getElem?_append_right (Nat.le_refl _), Nat.sub_self]; rfl, rfl⟩
/-- an object of the store is changed -/
theorem Sto.put (s : Sto h ρ m) {k : Nat} {a : Addr} (ha : ρ[k]? = some a) (hs : Heap.SameBut a h h') {o : O} (ho : OR h' ρ a o) : Sto h' ρ ⟨m.t.set k o, m.n⟩ := by
  have ne : ∀ i b, ρ[i]? = some b → i ≠ k → b ≠ a := fun i b q n z => by
    subst z
    obtain ⟨li, ei⟩ := List.getElem?_eq_some_iff.mp q
    obtain ⟨lk, ek⟩ := List.getElem?_eq_some_iff.mp ha
    have nd : List.Pairwise (· ≠ ·) ρ := s.nd
    rcases Nat.lt_trichotomy i k with q | q | q
    · exact (List.pairwise_iff_getElem.mp nd i k li lk q) (ei.trans ek.symm)
    · exact n q
    · exact (List.pairwise_iff_getElem.mp nd k i lk li q) (ek.trans ei.symm)
  refine ⟨s.n, s.nd, fun i o' q => ?_, fun b q => ?_⟩
  · rcases T.set_get _ _ _ _ _ q with ⟨rfl, rfl⟩ | ⟨n, q⟩
    · exact ⟨a, ha, ho⟩
    · obtain ⟨b, r, z⟩ := s.at_ i o' q
      exact ⟨b, r, z.keep fun o e => (hs.2 b (ne i b r n)).trans e⟩
  · by_cases z : b = a
    · subst z
      cases o with
      | list => obtain ⟨_, _, q, _⟩ := ho; exact ⟨_, q⟩
      | tup => obtain ⟨_, _, q, _⟩ := ho; exact ⟨_, q⟩
    · obtain ⟨o', r⟩ := s.live b q; exact ⟨o', (hs.2 b z).trans r⟩
theorem Ext.put {k : Nat} {a : Addr} (ha : ρ[k]? = some a) (hs : Heap.SameBut a h h') : Ext ρ h ρ h' :=
  ⟨⟨[], (List.append_nil _).symm, fun _ q => nomatch q⟩, fun b o q n => (hs.2 b fun z => n (z ▸ List.mem_of_getElem? ha)).trans q⟩
end
end Mine

namespace Mine
open PySem PySem.W PyProof.Rows

def PO (ρ : List Addr) (s : Shared) (u : V) (m' : M) (Q : Value → Shared → Prop) : Prop :=
  ∀ ρ' h' tk x, Ext ρ s.heap ρ' h' → Sto h' ρ' m' → VR ρ' u x → Q x { s with heap := h', toks := tk }
section
variable {prog : Program} {w : World} {A : Around} {E' : Value → Shared → Prop} {s : Shared} {Q : Value → Shared → Prop} {ρ : List Addr} {m m' : M} {u v v' : V} {a b : Value}
theorem PO.same (p : PO ρ s u m Q) (S : Sto s.heap ρ m) {x : Value} (h : VR ρ u x) (tk : Nat) : Q x { s with toks := tk } := p ρ s.heap tk x (Ext.refl ..) S h
theorem PO.here (p : PO ρ s u m Q) (S : Sto s.heap ρ m) {x : Value} (h : VR ρ u x) : Q x s := p ρ s.heap s.toks x (Ext.refl ..) S h
theorem PO.kept (p : PO ρ s u m Q) (S : Sto s.heap ρ m) {x : Value} (h : VR ρ u x) {h' : Heap} {tk : Nat} (k : ∀ b o, s.heap.get? b = some o → h'.get? b = some o) : Q x { s with heap := h', toks := tk } :=
  p ρ h' tk x (.of_keep k) (S.keep fun b o _ => k b o) h
theorem PO.list {vs : List V} (p : PO ρ s (m.new (.list vs)).1 (m.new (.list vs)).2 Q) (S : Sto s.heap ρ m) {ws : List Value} (h : VRs ρ vs ws) {h' : Heap} {tk n : Nat} {a : Addr} (ha : s.heap.get? a = none)
    (k : ∀ b o, s.heap.get? b = some o → h'.get? b = some o) (ho : h'.get? a = some { cls := .type "list", data := .seq (List.toArray ws) n }) : Q (.ref a) { s with heap := h', toks := tk } :=
  p _ _ _ _ (.new ha k) (S.new ha k ⟨ws, n, ho, h⟩) (VR.new S _)
theorem PO.tup {vs : List V} (p : PO ρ s (m.new (.tup vs)).1 (m.new (.tup vs)).2 Q) (S : Sto s.heap ρ m) {ws : List Value} (h : VRs ρ vs ws) {h' : Heap} {tk n : Nat} {a : Addr} (ha : s.heap.get? a = none)
    (k : ∀ b o, s.heap.get? b = some o → h'.get? b = some o) (ho : h'.get? a = some { cls := .type "tuple", data := .seq (List.toArray ws) n }) : Q (.ref a) { s with heap := h', toks := tk } :=
  p _ _ _ _ (.new ha k) (S.new ha k ⟨ws, n, ho, h⟩) (VR.new S _)
theorem push_keep (h : Heap) (o : Obj) : ∀ b o', h.get? b = some o' → (h.push o).get? b = some o' := fun _ _ e => Heap.get?_push_of_some o e

theorem sm_le {a : Int} (h : sm a = true) : a.natAbs ≤ 4611686018427387904 := Nat.le_of_ble_eq_true h
theorem few_le {n : Nat} (h : few n = true) : n ≤ 16384 := Nat.le_of_ble_eq_true h
theorem VR.intOf {w : Value} {i : Int} (h : VR ρ (.int i) w) : ∃ t, w = .int i t := h
theorem Sto.list (S : Sto s.heap ρ m) {k : Nat} {vs : List V} (e : m.t.get k = some (.list vs)) {w : Value} (h : VR ρ (.ref k) w) :
    ∃ a ws n, w = .ref a ∧ ρ[k]? = some a ∧ s.heap.get? a = some { cls := .type "list", data := .seq (List.toArray ws) n } ∧ VRs ρ vs ws := by
  obtain ⟨a, e1, rfl⟩ := h
  obtain ⟨b, e2, ws, n, q, r⟩ := S.at_ _ _ e
  rw [e1] at e2; cases e2
  exact ⟨a, ws, n, rfl, e1, q, r⟩
theorem Sto.tup (S : Sto s.heap ρ m) {k : Nat} {vs : List V} (e : m.t.get k = some (.tup vs)) {w : Value} (h : VR ρ (.ref k) w) :
    ∃ a ws n, w = .ref a ∧ ρ[k]? = some a ∧ s.heap.get? a = some { cls := .type "tuple", data := .seq (List.toArray ws) n } ∧ VRs ρ vs ws := by
  obtain ⟨a, e1, rfl⟩ := h
  obtain ⟨b, e2, ws, n, q, r⟩ := S.at_ _ _ e
  rw [e1] at e2; cases e2
  exact ⟨a, ws, n, rfl, e1, q, r⟩
theorem isList_of {h : Heap} {a : Addr} {its : Array Value} {n : Nat} (e : h.get? a = some { cls := .type "list", data := .seq its n }) : h.IsList a its := ⟨_, e, rfl, n, rfl⟩
theorem isTup_of {h : Heap} {a : Addr} {its : Array Value} {n : Nat} (e : h.get? a = some { cls := .type "tuple", data := .seq its n }) : IsTup h a its := ⟨_, e, rfl, n, rfl⟩

theorem listMul_K {l : Addr} {vs : List Value} {k : Nat} {x : Int} {t : Tok} (ho : s.heap.get? l = some { cls := .type "list", data := .seq (List.toArray vs) k }) (hlo : -(2 ^ 63 : Int) ≤ x) (hhi : x < 2 ^ 63) (hsz : vs.length * x.toNat ≤ 16384)
    (h : Q (.ref s.heap.objs.size) { s with heap := s.heap.push { cls := .type "list", data := .seq (List.toArray (List.replicate x.toNat vs).flatten) } }) : wpAny (model prog w) A (binaryOp .Mult (.ref l) (.int x t)) Q E' s := by
  have hsz' : vs.toArray.size * x.toNat ≤ 16384 := by simpa using hsz
  refine wpAny_binaryOp_repeat_ref (T := "list") (U := "int") (by decide) ⟨_, ho, rfl⟩ (fun s' => typeIs_int s' x t) noFill_list_mul F.fills_int_mul F.slot_int_rmul repeat_list F.slot_int_index.lookup
    (call_meets F.slot_int_rmul (typeIs_int s x t) F.entry_int_rmul (F.args_int_rmul_2 _ _) (lm_int_rmul_list_any x t l vs.toArray k none #[])
      ⟨ho, rfl, ⟨_, ho, rfl⟩, call_meets F.slot_list_mul ⟨_, ho, rfl⟩ F.entry_list_mul (F.args_list_mul_2 _ _)
        (lm_list_mul_any l vs.toArray k none #[] x t (by simp [Builtin.List.listFitsIndex]; omega) (by omega) (by simp [Builtin.List.listTooLong, sizeLine]; omega))
        ⟨ho, ?_⟩⟩)
  rw [listMul_foldl_if]
  exact h

theorem binV_sound {op : BOp} (e : binV op m v v' = some (u, m')) (S : Sto s.heap ρ m) (hv : VR ρ v a) (hw : VR ρ v' b) (p : PO ρ s u m' Q) : wpAny (model prog w) A (binaryOp op.back a b) Q E' s := by
  unfold binV at e
  split at e
  · rename_i x
    obtain ⟨t, rfl⟩ := hv
    split at e
    · rename_i y
      obtain ⟨t', rfl⟩ := hw
      split at e
      · rename_i c hc
        cases e
        unfold binI at hc
        cases op with
        | add => cases hc; exact PyProof.Rows.add_int (p.same S ⟨_, rfl⟩ _)
        | sub => cases hc; exact PyProof.Rows.sub_int (p.same S ⟨_, rfl⟩ _)
        | mul =>
          simp only at hc
          split at hc
          · rename_i hs
            cases hc
            exact PyProof.Rows.mul_int (p.same S ⟨_, rfl⟩ _) (IntMulOk.of_left (intBits_le_64 (by have := sm_le hs; omega) (by have := sm_le hs; omega)))
          · cases hc
        | div =>
          simp only at hc
          split at hc
          · rename_i hs
            cases hc
            simp only [Bool.and_eq_true, Bool.not_eq_true'] at hs
            have hb : y ≠ 0 := fun q => by
              have := (W.Z.eqB_iff y 0).mpr q
              rw [hs.2] at this; cases this
            refine PyProof.Rows.floordiv_int hb (p.same S ⟨_, rfl⟩ _) (Or.inl ?_)
            have := sm_le hs.1.1
            have := sm_le hs.1.2
            unfold Builtin.divisionGoesByPylong
            have key : ∀ n : Int, n.natAbs ≤ 4611686018427387904 → (if n == 0 then 0 else n.natAbs.log2 / 30 + 1) ≤ 300 := fun n hn => by
              split
              · omega
              · have : n.natAbs.log2 < 63 := by
                  by_cases h0 : n.natAbs = 0
                  · rw [h0]; decide
                  · exact (Nat.log2_lt h0).mpr (by omega)
                omega
            have k2 := key y this
            simp only [Bool.and_eq_false_iff]
            left
            exact decide_eq_false (by omega)
          · cases hc
        | mod =>
          simp only at hc
          split at hc
          · cases hc
          · rename_i hs
            cases hc
            have hb : y ≠ 0 := fun q => by
              have := (W.Z.eqB_iff y 0).mpr q
              rw [hs] at this; cases this
            exact PyProof.Rows.mod_int' hb (p.same S ⟨_, rfl⟩ _)
        | pow =>
          simp only at hc
          split at hc
          · rename_i hs
            cases hc
            simp only [Bool.and_eq_true] at hs
            have h1 := (W.Z.leB_iff _ _).mp hs.1.2
            have h2 := (W.Z.leB_iff _ _).mp hs.2
            have := sm_le hs.1.1
            exact PyProof.Rows.pow_int_small h1 (by omega) (by omega) (p.same S ⟨_, rfl⟩ _)
          · cases hc
      · cases e
    · cases e
  · split at e
    · rename_i j _ xs ej
      obtain ⟨l, ws, n, rfl, el, hl, hr⟩ := S.list ej hv
      split at e
      · rename_i k
        split at e
        · split at e
          · rename_i ys ek
            obtain ⟨l', ws', n', rfl, el', hl', hr'⟩ := S.list ek hw
            split at e
            · rename_i hf
              cases e
              refine P.add_list hl hl' ?_ (by have := few_le hf; rw [hr.length, hr'.length] at this; simp only [List.size_toArray]; rw [sizeLine_eq]; omega)
              have z := p.list (tk := s.toks) S (hr.append hr') (none_size s.heap) (push_keep s.heap { cls := .type "list", data := .seq (List.toArray (ws ++ ws')) }) (n := 0) (Heap.get?_push_size _ rfl)
              rw [show (ws.toArray ++ ws'.toArray) = (ws ++ ws').toArray by simp]
              exact z
            · cases e
          · cases e
        · cases e
      · rename_i c
        obtain ⟨t, rfl⟩ := hw
        split at e
        · split at e
          · rename_i hf
            cases e
            simp only [Bool.and_eq_true] at hf
            have h1 := sm_le hf.1
            have h2 := few_le hf.2
            rw [hr.length] at h2
            refine listMul_K hl (by omega) (by omega) h2 ?_
            exact p.list (tk := s.toks) S (hr.rep _) (none_size s.heap) (push_keep s.heap _) (n := 0) (Heap.get?_push_size _ rfl)
          · cases e
        · cases e
      · cases e
    · cases e
  · cases e
end
end Mine

namespace Mine
open PySem PySem.W PyProof.Rows

theorem eqB_eq (a b : Int) : W.Z.eqB a b = (a == b) := by
  rw [Bool.eq_iff_iff, W.Z.eqB_iff, beq_iff_eq]
theorem ltB_eq (a b : Int) : W.Z.ltB a b = decide (a < b) := by
  rw [Bool.eq_iff_iff, W.Z.ltB_iff, decide_eq_true_iff]
theorem leB_eq (a b : Int) : W.Z.leB a b = decide (a ≤ b) := by
  rw [Bool.eq_iff_iff, W.Z.leB_iff, decide_eq_true_iff]
theorem hasI_spec {ρ : List Addr} {a : Int} : ∀ {vs : List V} {ws : List Value} {c : Bool}, hasI a vs = some c → VRs ρ vs ws → ∃ ns, IntsAre ws ns ∧ ns.any (· == a) = c
  | [], _, _, e, .nil => by cases e; exact ⟨[], .nil, rfl⟩
  | .int b :: r, _, c, e, .cons h hr => by
    obtain ⟨t, rfl⟩ := h
    unfold hasI at e
    split at e
    · rename_i c' e'
      obtain ⟨ns, q, z⟩ := hasI_spec e' hr
      cases e
      exact ⟨b :: ns, .cons b t q, by rw [List.any_cons, z, eqB_eq]⟩
    · cases e
  | .none :: _, _, _, e, _ => by cases e
  | .bool _ :: _, _, _, e, _ => by cases e
  | .ref _ :: _, _, _, e, _ => by cases e

theorem mapO_data {n : Nat} {t : T} {h : Heap} {ρ : List Addr} (ih : ∀ v d w, dataOf n t v = some d → VR ρ v w → (∃ as, Reads h w d as) ∧ d.canLay0 = true ∧ d.depth ≤ n) :
    ∀ {vs : List V} {ds : List PyData} {ws : List Value}, mapO (dataOf n t) vs = some ds → VRs ρ vs ws → (∃ as, ReadsAll h ws ds as) ∧ PyData.canLayAll0 ds = true ∧ PyData.depthAll ds ≤ n
  | [], _, _, e, .nil => by cases e; exact ⟨⟨_, .nil⟩, rfl, by simp [PyData.depthAll]⟩
  | v :: vs, _, _, e, .cons a r => by
    unfold mapO at e
    split at e
    · rename_i d e1
      split at e
      · rename_i ds e2
        cases e
        obtain ⟨⟨as, p⟩, q, z⟩ := ih _ _ _ e1 a
        obtain ⟨⟨bs, p'⟩, q', z'⟩ := mapO_data ih e2 r
        refine ⟨⟨_, .cons p p'⟩, by simp [PyData.canLayAll0, q, q'], ?_⟩
        simp only [PyData.depthAll]; omega
      · cases e
    · cases e
theorem dataOf_spec {m : M} {h : Heap} {ρ : List Addr} (S : Sto h ρ m) : ∀ (n : Nat) (v : V) (d : PyData) (w : Value), dataOf n m.t v = some d → VR ρ v w → (∃ as, Reads h w d as) ∧ d.canLay0 = true ∧ d.depth ≤ n
  | 0, _, _, _, e, _ => by cases e
  | n + 1, v, d, w, e, hv => by
    cases v with
    | none => cases e; cases hv; exact ⟨⟨_, .none⟩, rfl, by simp [PyData.depth]⟩
    | bool b => cases e; cases hv; exact ⟨⟨_, .bool b⟩, rfl, by simp [PyData.depth]⟩
    | int i => cases e; obtain ⟨t, rfl⟩ := hv; exact ⟨⟨_, .int i t⟩, rfl, by simp [PyData.depth]⟩
    | ref k =>
      unfold dataOf at e
      simp only at e
      split at e
      · rename_i o eo
        obtain ⟨a, e1, rfl⟩ := hv
        obtain ⟨b, e2, ob⟩ := S.at_ _ _ eo
        rw [e1] at e2; cases e2
        split at e
        · split at e
          · rename_i ds e3
            cases e
            obtain ⟨ws, k', q, r⟩ := ob
            obtain ⟨⟨as, p⟩, c, z⟩ := mapO_data (dataOf_spec S n) e3 r
            exact ⟨⟨_, .list q rfl rfl p⟩, by simpa [PyData.canLay0] using c, by simp only [PyData.depth]; omega⟩
          · cases e
        · split at e
          · rename_i ds e3
            cases e
            obtain ⟨ws, k', q, r⟩ := ob
            obtain ⟨⟨as, p⟩, c, z⟩ := mapO_data (dataOf_spec S n) e3 r
            exact ⟨⟨_, .tuple q rfl rfl p⟩, by simpa [PyData.canLay0] using c, by simp only [PyData.depth]; omega⟩
          · cases e
      · cases e
theorem shaped_of {d : PyData} (c : d.canLay0 = true) (z : d.depth ≤ 6) : SeqAt.shaped d = true := by
  unfold SeqAt.shaped
  rw [c, Bool.true_and]; exact decide_eq_true (by omega)

section
variable {prog : Program} {w : World} {A : Around} {E' : Value → Shared → Prop} {s : Shared} {Q : Value → Shared → Prop} {ρ : List Addr} {m m' : M} {u v v' : V} {a b : Value}
theorem eqD_spec {j k : Nat} {c : Bool} (e : eqD m.t j k = some c) (S : Sto s.heap ρ m) (hv : VR ρ (.ref j) a) (hw : VR ρ (.ref k) b) :
    ∃ da db as bs, Reads s.heap a da as ∧ Reads s.heap b db bs ∧ SeqAt.shaped da = true ∧ SeqAt.shaped db = true ∧ PyData.eqv da db = c := by
  unfold eqD at e
  split at e
  · split at e
    · split at e
      · rename_i d e1
        split at e
        · rename_i d' e2
          cases e
          obtain ⟨⟨as, p⟩, q, z⟩ := dataOf_spec S _ _ _ _ e1 hv
          obtain ⟨⟨bs, p'⟩, q', z'⟩ := dataOf_spec S _ _ _ _ e2 hw
          exact ⟨_, _, _, _, p, p', shaped_of q z, shaped_of q' z', rfl⟩
        · cases e
      · cases e
    · cases e
  · cases e
theorem cmpV_sound {op : COp} {c : Bool} (e : cmpV op m v v' = some c) (S : Sto s.heap ρ m) (hv : VR ρ v a) (hw : VR ρ v' b) (hu : A.units + 64 < cLine) (p : Q (.bool c) s) : wpAny (model prog w) A (compareOp op.back a b) Q E' s := by
  unfold cmpV at e
  split at e
  · rename_i x
    obtain ⟨t, rfl⟩ := hv
    split at e
    · rename_i y
      obtain ⟨t', rfl⟩ := hw
      unfold cmpI at e
      cases op with
      | eq => cases e; rw [eqB_eq] at p; exact PyProof.Rows.eq_int p
      | ne => cases e; rw [eqB_eq] at p; exact PyProof.Rows.ne_int p
      | lt => cases e; rw [ltB_eq] at p; exact PyProof.Rows.lt_int p
      | le => cases e; rw [leB_eq] at p; exact PyProof.Rows.le_int p
      | gt => cases e; rw [ltB_eq] at p; exact PyProof.Rows.gt_int p
      | ge => cases e; rw [leB_eq] at p; exact PyProof.Rows.ge_int p
      | isin => cases e
      | notin => cases e
    · rename_i k
      split at e
      · rename_i xs ek
        obtain ⟨l, ws, n, rfl, el, hl, hr⟩ := S.list ek hw
        cases op with
        | isin =>
          obtain ⟨ns, hi, z⟩ := hasI_spec e hr
          exact PyProof.Rows.in_list_ints (isList_of hl) hi (by rw [z]; exact p)
        | notin =>
          simp only [Option.map_eq_some_iff] at e
          obtain ⟨c', e, rfl⟩ := e
          obtain ⟨ns, hi, z⟩ := hasI_spec e hr
          exact PyProof.Rows.notin_list_ints (isList_of hl) hi (by rw [z]; exact p)
        | _ => cases e
      · rename_i xs ek
        obtain ⟨l, ws, n, rfl, el, hl, hr⟩ := S.tup ek hw
        cases op with
        | isin =>
          obtain ⟨ns, hi, z⟩ := hasI_spec e hr
          exact PyProof.Rows.in_tuple_ints (isTup_of hl) hi (by rw [z]; exact p)
        | notin =>
          simp only [Option.map_eq_some_iff] at e
          obtain ⟨c', e, rfl⟩ := e
          obtain ⟨ns, hi, z⟩ := hasI_spec e hr
          exact PyProof.Rows.notin_tuple_ints (isTup_of hl) hi (by rw [z]; exact p)
        | _ => cases e
      · cases e
    · cases e
  · rename_i j
    split at e
    · rename_i k
      cases op with
      | eq =>
        obtain ⟨da, db, as, bs, ra, rb, sa, sb, z⟩ := eqD_spec e S hv hw
        exact eq_dataH ra rb sa sb hu (by rw [z]; exact p)
      | ne =>
        simp only [Option.map_eq_some_iff] at e
        obtain ⟨c', e, rfl⟩ := e
        obtain ⟨da, db, as, bs, ra, rb, sa, sb, z⟩ := eqD_spec e S hv hw
        exact ne_dataH ra rb sa sb hu (by rw [z]; exact p)
      | _ => cases e
    · cases e
  · cases e

theorem sumI_spec {ρ : List Addr} : ∀ {vs : List V} {ws : List Value} {z c : Int}, sumI vs z = some c → VRs ρ vs ws → (∀ v ∈ ws, ∃ a t, v = Value.int a t) ∧ c = z + (numsOf ws).sum
  | [], _, _, _, e, .nil => by cases e; exact ⟨(fun _ h => nomatch h), (by simp [numsOf])⟩
  | .int b :: r, _, z, c, e, .cons h hr => by
    obtain ⟨t, rfl⟩ := h
    obtain ⟨p, q⟩ := sumI_spec (z := z + b) e hr
    refine ⟨fun v hv => ?_, by rw [q, numsOf, List.sum_cons, Int.add_assoc]⟩
    rcases List.mem_cons.mp hv with rfl | hv
    · exact ⟨b, t, rfl⟩
    · exact p v hv
  | .none :: _, _, _, _, e, _ => by cases e
  | .bool _ :: _, _, _, _, e, _ => by cases e
  | .ref _ :: _, _, _, _, e, _ => by cases e

def Bi.val : Bi → Value
  | .len => .builtin "len" | .max => .builtin "max" | .abs => .builtin "abs" | .int => .type "int" | .list => .type "list" | .sum => .builtin "sum"
theorem biV_sound {f : Bi} {vs : List V} {ws : List Value} (e : biV f m vs = some (u, m')) (S : Sto s.heap ρ m) (hv : VRs ρ vs ws) (hh : A.handled = none) (p : PO ρ s u m' Q) : wpAny (model prog w) A (call f.val ws) Q E' s := by
  unfold biV at e
  cases f with
  | len =>
    simp only at e
    split at e
    · split at e
      · rename_i k xs ek
        obtain ⟨_, _⟩ | ⟨h1, h2⟩ := hv
        cases h2
        obtain ⟨l, ws, n, rfl, el, hl, hr⟩ := S.list ek h1
        split at e
        · rename_i hf
          cases e
          have := few_le hf
          refine Calls.call_len_list (isList_of hl) (by rw [hr.length] at this; simp only [List.size_toArray]; omega) (p.same S ⟨s.toks + 1, ?_⟩ _)
          rw [hr.length, List.size_toArray]
          rfl
        · cases e
      · cases e
    · cases e
  | max =>
    simp only at e
    split at e
    · rename_i x y
      cases e
      cases hv with
      | cons h1 h2 =>
        cases h2 with
        | cons h2 h3 =>
          cases h3
          obtain ⟨t, rfl⟩ := h1
          obtain ⟨t', rfl⟩ := h2
          refine max_two_ints hh fun h' tk k => ?_
          refine p.kept S ?_ k
          rw [ltB_eq]
          by_cases q : x < y
          · rw [decide_eq_true q, if_pos q]; exact ⟨_, rfl⟩
          · rw [decide_eq_false q, if_neg q]; exact ⟨_, rfl⟩
    · cases e
  | abs =>
    simp only at e
    split at e
    · rename_i x
      cases e
      cases hv with
      | cons h1 h2 =>
        cases h2
        obtain ⟨t, rfl⟩ := h1
        refine PyProof.Rows.call_abs_int fun t' tk => ?_
        refine p.same S (tk := tk) ⟨t', ?_⟩
        congr 1
        show _ = ((x.natAbs : Nat) : Int)
        split <;> omega
    · cases e
  | int =>
    simp only at e
    split at e
    · rename_i x
      cases e
      cases hv with
      | cons h1 h2 =>
        cases h2
        obtain ⟨t, rfl⟩ := h1
        exact call_int_int (p.here S ⟨_, rfl⟩)
    · cases e
  | list =>
    simp only at e
    split at e
    · split at e
      · rename_i k xs ek
        cases hv with
        | cons h1 h2 =>
          cases h2
          obtain ⟨l, ws, n, rfl, el, hl, hr⟩ := S.list ek h1
          split at e
          · rename_i hf
            cases e
            have := few_le hf
            refine call_list_seq l (.inl rfl) hl rfl rfl (fun h' c' hk hD => ?_) (by rw [hr.length] at this; simp only [List.size_toArray]; rw [sizeLine_eq]; omega)
            exact p.list S hr (none_size _) hk hD
          · cases e
      · cases e
    · cases e
  | sum =>
    simp only at e
    split at e
    · split at e
      · rename_i k xs ek
        split at e
        · rename_i c ec
          cases e
          cases hv with
          | cons h1 h2 =>
            cases h2
            obtain ⟨l, ws, n, rfl, el, hl, hr⟩ := S.list ek h1
            obtain ⟨q, z⟩ := sumI_spec ec hr
            have hall : AllInts ws.toArray := fun v hv => q v (by simpa using hv)
            obtain ⟨is, ei⟩ := hall.items
            have hl' := isList_of hl
            rw [ei] at hl'
            refine sum_intListG hh hl' fun h' tk t' k => p.kept S ⟨t', ?_⟩ k
            rw [preSum_eq, List.take_of_length_le (by simp), ← nums_intItems, ← ei, z]
            simp
        · cases e
      · cases e
    · cases e

theorem getItem_list_neg' {l : Addr} {items : Array Value} {n : Nat} {j : Nat} {t : Tok} {x : Value} (hl : s.heap.get? l = some { cls := .type "list", data := .seq items n }) (h1 : j + 1 ≤ items.size) (hfit : j < 2 ^ 62) (hx : items[items.size - (j + 1)]? = some x) (h : Q x s) :
    wpAny (model prog w) A (getItem (.ref l) (.int (Int.negSucc j) t)) Q E' s :=
  wpAny_getItem_list_neg (isList_of hl) (by omega) (by omega) (by omega) (by rw [show (Int.negSucc j + (items.size : Int)).toNat = items.size - (j + 1) by omega]; exact hx) h
theorem subV_sound {x y : PySem.Expr} (e : subV m v v' = some u) (S : Sto s.heap ρ m) (hv : VR ρ v a) (hw : VR ρ v' b) (hs : ∀ o i, subscripted y false o i = operate [o, i] (getItem o i)) (p : PO ρ s u m Q) : wpAny (model prog w) A (subscriptTail x y a b) Q E' s := by
  unfold subV at e
  split at e
  · rename_i k
    split at e
    · rename_i i
      obtain ⟨t, rfl⟩ := hw
      split at e
      · rename_i hsm
        have hle := sm_le hsm
        split at e
        · rename_i xs ek
          obtain ⟨l, ws, n, rfl, el, hl, hr⟩ := S.list ek hv
          refine tail_any (T := "list") ⟨_, hl, rfl⟩ slot_list_getitem.lookup ?_ (hs _ _)
          unfold itemAt at e
          split at e
          · rename_i j
            obtain ⟨z, q, r⟩ := hr.nth e
            exact wpAny_getItem_list (isList_of hl) (by simp) (by simp only [Int.ofNat_eq_natCast, Int.natAbs_natCast] at hle ⊢; omega) (by simpa using q) (p.here S r)
          · rename_i j
            split at e
            · rename_i hb
              have hb' := Nat.le_of_ble_eq_true hb
              obtain ⟨z, q, r⟩ := hr.nth e
              rw [hr.length] at hb' q
              exact getItem_list_neg' hl (by simpa using hb') (by simp only [Int.natAbs_negSucc] at hle; omega) (by simpa using q) (p.here S r)
            · cases e
        · rename_i xs ek
          obtain ⟨l, ws, n, rfl, el, hl, hr⟩ := S.tup ek hv
          refine tail_any (T := "tuple") ⟨_, hl, rfl⟩ F.slot_tuple_getitem.lookup ?_ (hs _ _)
          split at e
          · rename_i j
            obtain ⟨z, q, r⟩ := hr.nth e
            have hj : j < ws.length := (List.getElem?_eq_some_iff.mp q).1
            refine P.getItem_tuple (k := j) hl (by simp only [Int.ofNat_eq_natCast]; omega) (by simp only [Int.ofNat_eq_natCast, Int.natAbs_natCast] at hle ⊢; omega) ?_ (by simpa using q) (p.here S r)
            unfold seqIndex?
            have h0 : ¬ ((j : Int) < 0) := by omega
            simp [h0, hj]
          · cases e
        · cases e
      · cases e
    · cases e
  · cases e
end
end Mine

namespace Mine
open PySem PySem.W PyProof.Rows

structure ExtS (env : Env) (ρ : List Addr) (h : Heap) (ρ' : List Addr) (h' : Heap) : Prop where
  pre : ∃ ν, ρ' = ρ ++ ν ∧ ∀ a ∈ ν, h.get? a = none
  keep : ∀ b o, h.get? b = some o → b ∉ ρ → ¬ Own env b → h'.get? b = some o
theorem Ext.toS {env : Env} {ρ ρ' : List Addr} {h h' : Heap} (x : Ext ρ h ρ' h') : ExtS env ρ h ρ' h' := ⟨x.pre, fun b o e n _ => x.keep b o e n⟩
theorem ExtS.refl (env : Env) (ρ : List Addr) (h : Heap) : ExtS env ρ h ρ h := (Ext.refl ρ h).toS
theorem ExtS.trans {env : Env} {ρ ρ₁ ρ₂ : List Addr} {h h₁ h₂ : Heap} (x : ExtS env ρ h ρ₁ h₁) (l : ∀ a, a ∈ ρ ∨ Own env a → ∃ o, h₁.get? a = some o) (y : ExtS env ρ₁ h₁ ρ₂ h₂) : ExtS env ρ h ρ₂ h₂ := by
  obtain ⟨ν, rfl, hν⟩ := x.pre
  obtain ⟨μ, rfl, hμ⟩ := y.pre
  refine ⟨⟨ν ++ μ, by rw [List.append_assoc], fun a ha => ?_⟩, fun b o e hb hc => y.keep b o (x.keep b o e hb hc) (fun q => ?_) hc⟩
  · rcases List.mem_append.mp ha with q | q
    · exact hν a q
    · cases r : h.get? a with
      | none => rfl
      | some o =>
        by_cases ha' : a ∈ ρ ∨ Own env a
        · obtain ⟨o', l⟩ := l a ha'
          rw [hμ a q] at l; cases l
        · have z := x.keep a o r (fun q => ha' (.inl q)) (fun q => ha' (.inr q))
          rw [hμ a q] at z; cases z
  · rcases List.mem_append.mp q with q | q
    · exact hb q
    · rw [hν b q] at e; cases e
theorem EnvR.liveOwn {env : Env} {sc : Scope} {ns : List Str} {e : E} {ρ : List Addr} {h : Heap} (r : EnvR env sc ns e ρ h) : ∀ a, Near env a → ∃ o, h.get? a = some o := by
  intro a q
  rcases q with rfl | ⟨x, q⟩
  · obtain ⟨mm, ⟨o, _, _, ho, _⟩, _⟩ := r.vars; exact ⟨o, ho⟩
  · obtain ⟨_, _, u, o, ho, _⟩ := r.cel x a q; exact ⟨o, ho⟩
theorem EnvR.ownOff {env : Env} {sc : Scope} {ns : List Str} {e : E} {ρ : List Addr} {h : Heap} (r : EnvR env sc ns e ρ h) : ∀ a, Near env a → a ∉ ρ := by
  intro a q
  rcases q with rfl | ⟨x, q⟩
  · exact r.loc
  · exact (r.cel x a q).1
section
variable {hb : Heap} {env : Env} {sc : Scope} {ns : List Str} {e e' : E} {ρ ρ' : List Addr} {m m' : M} {h h' : Heap} {mm : Str → Option Value}
theorem St.liveS (s : St hb env sc ns e ρ m h) : ∀ a, a ∈ ρ ∨ Own env a → ∃ o, h.get? a = some o := fun a q => q.elim (s.sto.live a) fun z => s.env.liveOwn a z.near
theorem St.liveS' (s : St hb env sc ns e ρ' m h') (x : ExtS env ρ h ρ' h') : ∀ a, a ∈ ρ ∨ Own env a → ∃ o, h'.get? a = some o := fun a q => by
  obtain ⟨ν, rfl, _⟩ := x.pre
  exact s.liveS a (q.imp (List.mem_append_left _) id)

theorem set_get : ∀ {e e' : E} {k : Nat} {v : V}, e.set k v = some e' → ∃ p, e[k]? = some p ∧ e'.length = e.length
  | [], _, _, _, q => by cases q
  | p :: r, _, 0, _, q => by cases q; exact ⟨p, rfl, rfl⟩
  | p :: r, _, k + 1, v, q => by
    unfold E.set at q
    simp only at q
    split at q
    · rename_i r' er
      cases q
      obtain ⟨p', a, b⟩ := set_get er
      exact ⟨p', by simpa using a, by simp [b]⟩
    · cases q
theorem set_cellAt : ∀ {e : E} {k : Nat} {f : Bool} {ov : Option V}, e[k]? = some (f, ov) → e.isCell k = f
  | [], _, _, _, q => by simp at q
  | p :: r, 0, _, _, q => by simp at q; subst q; rfl
  | p :: r, k + 1, _, _, q => by simpa [E.isCell] using set_cellAt (e := r) (k := k) (by simpa using q)
theorem set_isCell : ∀ {e e' : E} {k : Nat} {v : V}, e.set k v = some e' → ∀ j, e'.isCell j = e.isCell j
  | [], _, _, _, q, _ => by cases q
  | p :: r, _, 0, _, q, j => by cases q; cases j <;> rfl
  | p :: r, _, k + 1, v, q, j => by
    unfold E.set at q
    simp only at q
    split at q
    · rename_i r' er
      cases q
      cases j with
      | zero => rfl
      | succ j => exact set_isCell er j
    · cases q
theorem Slots.nth : ∀ {ns : List Str} {e : E}, Slots env h ρ mm ns e → ∀ {k : Nat} {p : Bool × Option V}, e[k]? = some p → nth ns k ∈ ns ∧ ns[k]? = some (nth ns k) ∧ Slot env h ρ mm (nth ns k) p
  | _, _, .nil, _, _, q => by simp at q
  | x :: ns, _, .cons a r, 0, _, q => by
    simp at q; subst q; exact ⟨List.mem_cons_self, rfl, a⟩
  | x :: ns, _, .cons a r, k + 1, _, q => by
    obtain ⟨i, j, l⟩ := r.nth (k := k) (by simpa using q)
    exact ⟨List.mem_cons_of_mem _ i, by simpa [Mine.nth] using j, l⟩
theorem get_at : ∀ {e : E} {k : Nat} {v : V}, e.get k = some v → ∃ c, e[k]? = some (c, some v)
  | [], _, _, q => by cases q
  | (c, ov) :: r, 0, _, q => by
    have : ov = _ := q
    subst this; exact ⟨c, rfl⟩
  | p :: r, k + 1, _, q => by simpa using get_at (e := r) (k := k) q
theorem Slots.off : ∀ {ns : List Str} {e : E}, Slots env h ρ mm ns e → ∀ {x : Str} {w : Value}, x ∉ ns → (∀ y c u, env.cells.lookup y = some c → h.IsCell c u → h'.IsCell c u) → Slots env h' ρ (fun y => if y = x then some w else mm y) ns e
  | _, _, .nil, _, _, _, _ => .nil
  | z :: ns, (false, ov) :: _, .cons a r, x, w, n, hc => by
    refine .cons ⟨a.1, fun v q => ?_⟩ (r.off (fun q => n (List.mem_cons_of_mem _ q)) hc)
    obtain ⟨w', p, q⟩ := a.2 v q
    exact ⟨w', (if_neg (fun (q : z = x) => n (by rw [← q]; exact List.mem_cons_self))).trans p, q⟩
  | z :: ns, (true, ov) :: _, .cons a r, x, w, n, hc => by
    obtain ⟨ak, c, u, al, ac, av⟩ := a
    exact .cons ⟨ak, c, u, al, hc _ _ _ al ac, av⟩ (r.off (fun q => n (List.mem_cons_of_mem _ q)) hc)
theorem Slots.set_local : ∀ {ns : List Str} {e e' : E} {k : Nat} {v : V}, Slots env h ρ mm ns e → e.set k v = some e' → ns.Nodup → ∀ {w : Value}, env.kindOf (Mine.nth ns k) = some .local → VR ρ v w →
    (∀ y c u, env.cells.lookup y = some c → h.IsCell c u → h'.IsCell c u) → Slots env h' ρ (fun y => if y = Mine.nth ns k then some w else mm y) ns e'
  | _, [], _, _, _, _, q, _, _, _, _, _ => by cases q
  | x :: ns, (f, ov) :: r, _, 0, v, .cons a s, q, nd, w, kx, hv, hc => by
    cases q
    have nx := (List.nodup_cons.mp nd).1
    cases f with
    | true => have : env.kindOf x = some .cell := a.1; rw [show Mine.nth (x :: ns) 0 = x from rfl, this] at kx; cases kx
    | false => exact .cons ⟨kx, fun v' e => by cases e; exact ⟨w, if_pos rfl, hv⟩⟩ (s.off nx hc)
  | x :: ns, p :: r, e', k + 1, v, .cons a s, q, nd, w, kx, hv, hc => by
    unfold E.set at q
    simp only at q
    split at q
    · rename_i r' er
      cases q
      have nx := List.nodup_cons.mp nd
      obtain ⟨p', ep, _⟩ := set_get er
      obtain ⟨mk, _, _⟩ := s.nth ep
      refine .cons ?_ (s.set_local er nx.2 kx hv hc)
      have ne : x ≠ Mine.nth ns k := fun z => nx.1 (z ▸ mk)
      match p, a with
      | (false, ov), a => exact ⟨a.1, fun v q => let ⟨w', p, q⟩ := a.2 v q; ⟨w', (if_neg ne).trans p, q⟩⟩
      | (true, ov), a => exact let ⟨ak, c, u, al, ac, av⟩ := a; ⟨ak, c, u, al, hc _ _ _ al ac, av⟩
    · cases q
theorem Slots.off_cell : ∀ {ns : List Str} {e : E}, Slots env h ρ mm ns e → ∀ {x : Str}, x ∉ ns → (∀ y c u, y ≠ x → env.cells.lookup y = some c → h.IsCell c u → h'.IsCell c u) → Slots env h' ρ mm ns e
  | _, _, .nil, _, _, _ => .nil
  | z :: ns, (false, ov) :: _, .cons a r, x, n, hc => .cons a (r.off_cell (fun q => n (List.mem_cons_of_mem _ q)) hc)
  | z :: ns, (true, ov) :: _, .cons a r, x, n, hc => by
    obtain ⟨ak, c, u, al, ac, av⟩ := a
    exact .cons ⟨ak, c, u, al, hc _ _ _ (fun q => n (q ▸ List.mem_cons_self)) al ac, av⟩ (r.off_cell (fun q => n (List.mem_cons_of_mem _ q)) hc)
theorem Slots.set_cell : ∀ {ns : List Str} {e e' : E} {k : Nat} {v : V}, Slots env h ρ mm ns e → e.set k v = some e' → ns.Nodup → ∀ {w : Value} {c : Addr}, env.kindOf (Mine.nth ns k) = some .cell → env.cells.lookup (Mine.nth ns k) = some c → h'.IsCell c (some w) → VR ρ v w →
    (∀ y c u, y ≠ Mine.nth ns k → env.cells.lookup y = some c → h.IsCell c u → h'.IsCell c u) → Slots env h' ρ mm ns e'
  | _, [], _, _, _, _, q, _, _, _, _, _, _, _, _ => by cases q
  | x :: ns, (f, ov) :: r, _, 0, v, .cons a s, q, nd, w, c, kx, lx, hw, hv, hc => by
    cases q
    have nx := (List.nodup_cons.mp nd).1
    cases f with
    | false => have : env.kindOf x = some .local := a.1; rw [show Mine.nth (x :: ns) 0 = x from rfl, this] at kx; cases kx
    | true => exact .cons ⟨kx, c, _, lx, hw, fun v' e => by cases e; exact ⟨w, rfl, hv⟩⟩ (s.off_cell nx hc)
  | x :: ns, p :: r, e', k + 1, v, .cons a s, q, nd, w, c, kx, lx, hw, hv, hc => by
    unfold E.set at q
    simp only at q
    split at q
    · rename_i r' er
      cases q
      have nx := List.nodup_cons.mp nd
      obtain ⟨p', ep, _⟩ := set_get er
      obtain ⟨mk, _, _⟩ := s.nth ep
      refine .cons ?_ (s.set_cell er nx.2 kx lx hw hv hc)
      have ne : x ≠ Mine.nth ns k := fun z => nx.1 (z ▸ mk)
      match p, a with
      | (false, ov), a => exact a
      | (true, ov), a => exact let ⟨ak, c, u, al, ac, av⟩ := a; ⟨ak, c, u, al, hc _ _ _ ne al ac, av⟩
    · cases q

variable {prog : Program} {w : World} {A : Around} {E' : Value → Shared → Prop} {s : Shared}
theorem store_sound {Q : Unit → Shared → Prop} {k : Nat} {v : V} {x : Value} (S : St hb env sc ns e ρ m s.heap) (he : e.set k v = some e') (hf : env.func.isSome = true ∨ e.isCell k = false) (hv : VR ρ v x)
    (p : ∀ h' tk, St hb env sc ns e' ρ m h' → (∀ b o, s.heap.get? b = some o → ¬ Own env b → h'.get? b = some o) → Q () { s with heap := h', toks := tk }) :
    wpAny (model prog w) A (storeName env (nth ns k) x) Q E' s := by
  obtain ⟨mm, hn, hs⟩ := S.env.vars
  obtain ⟨pr, ep, el⟩ := set_get he
  obtain ⟨hm, hi, sl⟩ := hs.nth ep
  have own_ρ : ∀ b, b ∈ ρ → ¬ Near env b := fun b q z => S.env.ownOff b z q
  match pr, sl with
  | (false, ov), sl =>
    refine wpAny_storeName_local sl.1 hn (fun h' hn' hs' => p h' _ ?_ fun b o q n => (hs'.2 b fun z => n (.inl z)).trans q) ?_
    · have kc : ∀ y c u, env.cells.lookup y = some c → s.heap.IsCell c u → h'.IsCell c u := fun y c u l q => q.sameBut hs' (S.env.cel y c l).2.1
      refine ⟨S.sto.keep fun b o q r => (hs'.2 b fun z => own_ρ b q (.inl z)).trans r, ⟨fun b o q => (hs'.2 b fun z => ?_).trans (S.base.keep b o q), S.base.sep⟩, S.own,
        ⟨S.env.fn, S.env.gl, S.env.bi, S.env.gi, S.env.kc, S.env.dbg, S.env.nd, S.env.loc, fun y c l => ?_, S.env.apart, _, hn', hs.set_local he S.env.nd sl.1 hv kc⟩⟩
      · rw [S.own b (.inl z)] at q; cases q
      · obtain ⟨q, n, u, r⟩ := S.env.cel y c l
        exact ⟨q, n, u, kc y c u l r⟩
    · rw [S.env.fn]; rfl
  | (true, ov), sl =>
    obtain ⟨ak, c, u, al, ac, av⟩ := sl
    refine wpAny_storeName_cell S.env.fn ak al ac fun h' hc' hs' => p h' s.toks ?_ fun b o q n => (hs'.2 b fun z => n (.inr ⟨hf.elim id (fun y => by rw [set_cellAt ep] at y; cases y), _, z ▸ al⟩)).trans q
    have kc : ∀ y d u, y ≠ nth ns k → env.cells.lookup y = some d → s.heap.IsCell d u → h'.IsCell d u := fun y d u ny l q => q.sameBut hs' fun z => ny (S.env.apart _ _ _ (z ▸ l) al)
    obtain ⟨cρ, cl, _⟩ := S.env.cel _ _ al
    obtain ⟨o, es, ed, ho, hr⟩ := hn
    refine ⟨S.sto.keep fun b o q r => (hs'.2 b fun z => own_ρ b q (.inr ⟨_, z ▸ al⟩)).trans r, ⟨fun b o q => (hs'.2 b fun z => ?_).trans (S.base.keep b o q), S.base.sep⟩, S.own,
      ⟨S.env.fn, S.env.gl, S.env.bi, S.env.gi, S.env.kc, S.env.dbg, S.env.nd, S.env.loc, fun y d l => ?_, S.env.apart, mm, ⟨o, es, ed, (hs'.2 _ (Ne.symm cl)).trans ho, hr⟩, hs.set_cell he S.env.nd ak al hc' hv kc⟩⟩
    · rw [S.own b (.inr ⟨_, z ▸ al⟩)] at q; cases q
    · obtain ⟨q, n, u', r⟩ := S.env.cel y d l
      by_cases ny : y = nth ns k
      · subst ny; rw [al] at l; cases l; exact ⟨q, n, _, hc'⟩
      · exact ⟨q, n, u', kc y d u' ny l r⟩
theorem load_sound {Q : Value → Shared → Prop} {k : Nat} {v : V} {p : Pos} (S : St hb env sc ns e ρ m s.heap) (he : e.get k = some v) (q : ∀ x, VR ρ v x → Q x s) : wpAny (model prog w) A (eval (.Name (nth ns k) p) env) Q E' s := by
  obtain ⟨mm, hn, hs⟩ := S.env.vars
  obtain ⟨c, ec⟩ := get_at he
  obtain ⟨hm, hi, sl⟩ := hs.nth ec
  refine wpAny_Name ?_ (S.env.dbg _ hm)
  match c, sl with
  | false, sl =>
    obtain ⟨x, mx, vx⟩ := sl.2 v rfl
    exact wpAny_loadName_local S.env.fn sl.1 hn mx (q x vx)
  | true, sl =>
    obtain ⟨ak, c, u, al, ac, av⟩ := sl
    obtain ⟨x, rfl, vx⟩ := av v rfl
    exact wpAny_loadName_cell S.env.fn ak al ac (q x vx)
theorem loadn_sound {Q : Value → Shared → Prop} {k : Nat} {v : V} (S : St hb env sc ns e ρ m s.heap) (he : e.get k = some v) (q : ∀ x, VR ρ v x → Q x s) : wpAny (model prog w) A (loadName env (nth ns k)) Q E' s := by
  obtain ⟨mm, hn, hs⟩ := S.env.vars
  obtain ⟨c, ec⟩ := get_at he
  obtain ⟨hm, hi, sl⟩ := hs.nth ec
  match c, sl with
  | false, sl =>
    obtain ⟨x, mx, vx⟩ := sl.2 v rfl
    exact wpAny_loadName_local S.env.fn sl.1 hn mx (q x vx)
  | true, sl =>
    obtain ⟨ak, c, u, al, ac, av⟩ := sl
    obtain ⟨x, rfl, vx⟩ := av v rfl
    exact wpAny_loadName_cell S.env.fn ak al ac (q x vx)
end
end Mine

namespace Mine
open PySem PySem.W PyProof.Rows

def ItR (h : Heap) (ρ : List Addr) : It → List Addr → Prop
  | .lst k i, [a] => ∃ l, ρ[k]? = some l ∧ h.IsListIter a l i
  | .enum k i, [a, b] => ∃ l old, ρ[k]? = some l ∧ IsEnum h a b i old ∧ h.IsListIter b l i ∧ a ≠ b
  | .rev k c, [a] => ∃ l, ρ[k]? = some l ∧ h.IsRevIter a l ((c : Int) - 1)
  | .rng x left step, [a] => IsRangeIter h a x left step
  | _, _ => False
theorem nth_mono {ρ ν : List Addr} {k : Nat} {l : Addr} (e : ρ[k]? = some l) : (ρ ++ ν)[k]? = some l := by
  rw [List.getElem?_append_left (List.getElem?_eq_some_iff.mp e).1]; exact e
theorem ItR.keep {h h' : Heap} {ρ ν : List Addr} : ∀ {it : It} {its : List Addr}, ItR h ρ it its → (∀ b ∈ its, ∀ o, h.get? b = some o → h'.get? b = some o) → ItR h' (ρ ++ ν) it its
  | .lst k i, [a], ⟨l, e, o, ho, r⟩, k' => ⟨l, nth_mono e, o, k' a (by simp) o ho, r⟩
  | .enum k i, [a, b], ⟨l, old, e, he, ⟨o, ho, r⟩, n⟩, k' => ⟨l, old, nth_mono e, k' a (by simp) _ he, ⟨o, k' b (by simp) o ho, r⟩, n⟩
  | .rev k c, [a], ⟨l, e, o, ho, r⟩, k' => ⟨l, nth_mono e, o, k' a (by simp) o ho, r⟩
  | .rng x left step, [a], r, k' => k' a (by simp) _ r
theorem ItR.live {h : Heap} {ρ : List Addr} : ∀ {it : It} {its : List Addr}, ItR h ρ it its → ∀ b ∈ its, ∃ o, h.get? b = some o
  | .lst k i, [a], ⟨l, e, o, ho, r⟩, b, q => by rw [List.mem_singleton.mp q]; exact ⟨o, ho⟩
  | .enum k i, [a, c], ⟨l, old, e, he, ⟨o, ho, r⟩, n⟩, b, q => by
    rcases List.mem_cons.mp q with rfl | q
    · exact ⟨_, he⟩
    · rw [List.mem_singleton.mp q]; exact ⟨o, ho⟩
  | .rev k c, [a], ⟨l, e, o, ho, r⟩, b, q => by rw [List.mem_singleton.mp q]; exact ⟨o, ho⟩
  | .rng x left step, [a], r, b, q => by rw [List.mem_singleton.mp q]; exact ⟨_, r⟩
def Off (env : Env) (ρ : List Addr) (its : List Addr) : Prop := ∀ b ∈ its, b ∉ ρ ∧ ¬ Near env b
theorem Off.ext {env : Env} {ρ ρ' : List Addr} {h h' : Heap} {its : List Addr} (o : Off env ρ its) (x : ExtS env ρ h ρ' h') (l : ∀ b ∈ its, ∃ o, h.get? b = some o) : Off env ρ' its := by
  obtain ⟨ν, rfl, hν⟩ := x.pre
  refine fun b q => ⟨fun z => ?_, (o b q).2⟩
  rcases List.mem_append.mp z with z | z
  · exact (o b q).1 z
  · obtain ⟨ob, r⟩ := l b q
    rw [hν b z] at r; cases r
theorem ItR.ext {env : Env} {h h' : Heap} {ρ ρ' : List Addr} {it : It} {its : List Addr} (r : ItR h ρ it its) (o : Off env ρ its) (x : ExtS env ρ h ρ' h') : ItR h' ρ' it its := by
  obtain ⟨ν, rfl, hν⟩ := x.pre
  exact r.keep fun b q ob z => x.keep b ob z (o b q).1 fun y => (o b q).2 y.near

section
variable {prog : Program} {w : World} {A : Around} {E' : Value → Shared → Prop} {s : Shared} {hb : Heap} {env : Env} {sc : Scope} {ns : List Str} {e e' : E} {ρ : List Addr} {m : M} {it it' : It} {its : List Addr} {a : Addr} {tg : Tg} {i : Item}

theorem end_sound {Q : Option Value → Shared → Prop} (S : Sto s.heap ρ m) (R : ItR s.heap ρ it its) (ha : its.head? = some a) (hh : A.handled = none) (hn : it.next m.t = some .none)
    (p : ∀ h', (∀ b o, b ∉ its → s.heap.get? b = some o → h'.get? b = some o) → Q none { s with heap := h' }) : wpAny (model prog w) A (pyNext (.ref a)) Q E' s := by
  unfold It.next at hn
  match it, its, R with
  | .lst k i, [a'], ⟨l, e, R⟩ =>
    cases ha
    simp only at hn
    split at hn
    · rename_i vs ek
      split at hn
      · cases hn
      · rename_i en
        obtain ⟨l', ws, n, q, el, hl, hr⟩ := S.list ek ⟨l, e, rfl⟩
        cases q
        exact wpAny_pyNext_list_end hh R (isList_of hl) (by simpa using hr.nth_none en) fun h' x => p h' fun b o nb q => x b o (fun z => nb (by simp [z])) q
    · cases hn
  | .enum k i, [a', b'], ⟨l, old, e, he, R, n⟩ =>
    cases ha
    simp only at hn
    split at hn
    · rename_i vs ek
      split at hn
      · cases hn
      · rename_i en
        obtain ⟨l', ws, n, q, el, hl, hr⟩ := S.list ek ⟨l, e, rfl⟩
        cases q
        exact wpAny_pyNext_enum_end hh he R (isList_of hl) (by simpa using hr.nth_none en) fun h' x => p h' fun b o nb q => x b o (fun z => nb (by simp [z])) q
    · cases hn
  | .rev k c, [a'], ⟨l, e, R⟩ =>
    cases ha
    simp only at hn
    split at hn
    · exact wpAny_pyNext_rev_end hh (by simpa using R) fun h' x => p h' fun b o nb q => x b o (fun z => nb (by simp [z])) q
    · split at hn
      · split at hn <;> cases hn
      · cases hn
  | .rng x left step, [a'], R =>
    cases ha
    simp only at hn
    split at hn
    · rename_i q
      exact wpAny_pyNext_range_end hh R (by have := (W.Z.leB_iff _ _).mp q; exact this) fun h' x => p h' fun b o nb q => x b o (fun z => nb (by simp [z])) q
    · cases hn

theorem Slots.kc {h h' : Heap} {mm : Str → Option Value} : ∀ {ns : List Str} {e : E}, Slots env h ρ mm ns e → (∀ y c u, env.cells.lookup y = some c → h.IsCell c u → h'.IsCell c u) → Slots env h' ρ mm ns e
  | _, _, .nil, _ => .nil
  | z :: ns, (false, ov) :: _, .cons a r, hc => .cons a (r.kc hc)
  | z :: ns, (true, ov) :: _, .cons a r, hc => by
    obtain ⟨ak, c, u, al, ac, av⟩ := a
    exact .cons ⟨ak, c, u, al, hc _ _ _ al ac, av⟩ (r.kc hc)
theorem sto_keep' {h h' : Heap} (S : St hb env sc ns e ρ m h) (O : Off env ρ its) (hits : ∀ b ∈ its, hb.get? b = none) (k : ∀ b o, b ∉ its → h.get? b = some o → h'.get? b = some o) : St hb env sc ns e ρ m h' := by
  have kρ : ∀ b o, b ∈ ρ → h.get? b = some o → h'.get? b = some o := fun b o q r => k b o (fun z => (O b z).1 q) r
  have ko : ∀ b o, Near env b → h.get? b = some o → h'.get? b = some o := fun b o q r => k b o (fun z => (O b z).2 q) r
  obtain ⟨mm, ⟨o, es, ep, ho, hr⟩, hs⟩ := S.env.vars
  refine ⟨S.sto.keep kρ, ⟨fun b o q => k b o (fun z => ?_) (S.base.keep b o q), S.base.sep⟩, S.own, ⟨S.env.fn, S.env.gl, S.env.bi, S.env.gi, S.env.kc, S.env.dbg, S.env.nd, S.env.loc, fun y c l => ?_, S.env.apart, mm, ⟨o, es, ep, ko _ _ (.inl rfl) ho, hr⟩, ?_⟩⟩
  · rw [hits b z] at q; cases q
  · obtain ⟨q, n, u, oc, hoc, hd⟩ := S.env.cel y c l
    exact ⟨q, n, u, oc, ko _ _ (.inr ⟨y, l⟩) hoc, hd⟩
  · exact hs.kc fun y c u l ⟨oc, hoc, hd⟩ => ⟨oc, ko _ _ (.inr ⟨y, l⟩) hoc, hd⟩

def Turn (hb : Heap) (env : Env) (sc : Scope) (ns : List Str) (e' : E) (ρ : List Addr) (m : M) (it' : It) (its : List Addr) (s : Shared) (Q : Unit → Shared → Prop) : Prop :=
  ∀ h' tk, St hb env sc ns e' ρ m h' → ItR h' ρ it' its → (∀ b o, b ∉ its → ¬ Own env b → s.heap.get? b = some o → h'.get? b = some o) → Q () { s with heap := h', toks := tk }

theorem turn_one {Q : Unit → Shared → Prop} {k : Nat} {p : Pos} (S : St hb env sc ns e ρ m s.heap) (R : ItR s.heap ρ it its) (O : Off env ρ its) (hits : ∀ b ∈ its, hb.get? b = none) (ha : its.head? = some a) (hn : it.next m.t = some (some (i, it'))) (ht : take e (.one k p) i = some e') (hf : env.func.isSome = true ∨ tgl e (.one k p) = true)
    (q : Turn hb env sc ns e' ρ m it' its s Q) :
    wpAny (model prog w) A (pyNext (.ref a)) (fun r s₁ => match r with
      | none => False
      | some v => wpAny (model prog w) A (storeName env (nth ns k) v) Q E' s₁) E' s := by
  unfold take at ht
  match i, ht with
  | .v v, ht =>
    have fin : ∀ (h₁ : Heap) (tk : Nat) (x : Value), (∀ b o, b ∉ its → s.heap.get? b = some o → h₁.get? b = some o) → ItR h₁ ρ it' its → VR ρ v x →
        wpAny (model prog w) A (storeName env (nth ns k) x) Q E' { s with heap := h₁, toks := tk } := fun h₁ tk x k₁ R₁ hv =>
      store_sound (s := { s with heap := h₁, toks := tk }) (sto_keep' S O hits k₁) ht (hf.imp id fun y => by simpa [tgl] using y) hv fun h' tk' S' k' => q h' tk' S'
        (by have := R₁.keep (ν := []) (h' := h') fun b hb' o z => k' b o z (fun y => (O b hb').2 y.near); rwa [List.append_nil] at this) fun b o nb no z => k' b o (k₁ b o nb z) no
    unfold It.next at hn
    match it, its, R with
    | .lst k i, [a'], ⟨l, e, R⟩ =>
      cases ha
      simp only at hn
      split at hn
      · rename_i vs ek
        split at hn
        · rename_i v' en
          cases hn
          obtain ⟨l', ws, n, q, el, hl, hr⟩ := S.sto.list ek ⟨l, e, rfl⟩
          cases q
          obtain ⟨x, ex, hx⟩ := hr.nth en
          exact wpAny_pyNext_list_item R (isList_of hl) (by simpa using ex) fun h' r hs => fin h' s.toks x (fun b o nb z => (hs.2 b fun y => nb (by simp [y])).trans z) ⟨l, e, r⟩ hx
        · cases hn
      · cases hn
    | .enum k i, [a', b'], ⟨l, old, e, he, R, n⟩ =>
      simp only at hn
      split at hn
      · split at hn <;> cases hn
      · cases hn
    | .rev k c, [a'], ⟨l, e, R⟩ =>
      cases ha
      simp only at hn
      split at hn
      · cases hn
      · rename_i c'
        split at hn
        · rename_i vs ek
          split at hn
          · rename_i v' en
            cases hn
            obtain ⟨l', ws, n, q, el, hl, hr⟩ := S.sto.list ek ⟨l, e, rfl⟩
            cases q
            obtain ⟨x, ex, hx⟩ := hr.nth en
            have R' : s.heap.IsRevIter a l ((c' : Nat) : Int) := by
              have : (((c' + 1 : Nat) : Int) - 1) = (c' : Int) := by omega
              rw [this] at R; exact R
            exact wpAny_pyNext_rev_item R' (isList_of hl) (by simpa using ex) fun h' r hs => fin h' s.toks x (fun b o nb z => (hs.2 b fun y => nb (by simp [y])).trans z) ⟨l, e, r⟩ hx
          · cases hn
        · cases hn
    | .rng x left step, [a'], R =>
      cases ha
      simp only at hn
      split at hn
      · cases hn
      · rename_i ql
        cases hn
        have : 0 < left := by
          rcases Int.lt_or_le 0 left with h | h
          · exact h
          · rw [(W.Z.leB_iff _ _).mpr h] at ql; cases ql
        exact wpAny_pyNext_range_item R this fun h' r hs => fin h' _ _ (fun b o nb z => (hs.2 b fun y => nb (by simp [y])).trans z) r ⟨_, rfl⟩

theorem turn_two {Q : Unit → Shared → Prop} {k₁ k₂ c : Nat} {p₁ p₂ p : Pos} (S : St hb env sc ns e ρ m s.heap) (R : ItR s.heap ρ it its) (O : Off env ρ its) (hits : ∀ b ∈ its, hb.get? b = none) (ha : its.head? = some a) (hn : it.next m.t = some (some (i, it'))) (ht : take e (.two k₁ p₁ k₂ p₂ c p) i = some e') (hf : env.func.isSome = true ∨ tgl e (.two k₁ p₁ k₂ p₂ c p) = true)
    (hh : A.handled = none) (q : Turn hb env sc ns e' ρ m it' its s Q) :
    wpAny (model prog w) A (pyNext (.ref a)) (fun r s₁ => match r with
      | none => False
      | some v => wpAny (model prog w) A (letOwnedTupleGo ((Tg.two k₁ p₁ k₂ p₂ c p).back ns) (.ref a) v) (fun _ s₂ => wpAny (model prog w) A (assign ((Tg.two k₁ p₁ k₂ p₂ c p).back ns) env v) Q E' s₂) E' s₁) E' s := by
  unfold take at ht
  match i, ht with
  | .pr j v, ht =>
    simp only at ht
    split at ht
    · cases ht
    · split at ht
      · rename_i nk _ e₁ h1
        unfold It.next at hn
        match it, its, R with
        | .lst k i, [a'], ⟨l, e, R⟩ =>
          simp only at hn
          split at hn
          · split at hn <;> cases hn
          · cases hn
        | .rev k c, [a'], ⟨l, e, R⟩ =>
          simp only at hn
          split at hn
          · cases hn
          · split at hn
            · split at hn <;> cases hn
            · cases hn
        | .rng x left step, [a'], R =>
          simp only at hn
          split at hn <;> cases hn
        | .enum k i, [a', b'], ⟨l, old, el, he, R, n⟩ =>
          cases ha
          simp only at hn
          split at hn
          · rename_i vs ek
            split at hn
            · rename_i v' en
              cases hn
              obtain ⟨l', ws, n', q', el', hl, hr⟩ := S.sto.list ek ⟨l, el, rfl⟩
              cases q'
              obtain ⟨x, ex, hx⟩ := hr.nth en
              refine wpAny_pyNext_enum_item he R (isList_of hl) (by simpa using ex) n fun h₁ he₁ R₁ hT hsz kk => ?_
              refine wpAny_letOwnedTupleGo_enum he₁ fun h₂ he₂ hs₂ => ?_
              have ta : s.heap.objs.size ≠ a := fun z => by
                have := Heap.lt_size he; rw [← z] at this; exact Nat.lt_irrefl _ this
              have tb : s.heap.objs.size ≠ b' := fun z => by
                obtain ⟨o, ho, _⟩ := R
                have := Heap.lt_size ho; rw [← z] at this; exact Nat.lt_irrefl _ this
              have hT₂ : h₂.get? s.heap.objs.size = some { cls := Value.type "tuple", data := Data.seq #[Value.int (↑j) s.toks, x] } := (hs₂.2 _ ta).trans hT
              refine wpAny_assign_Tuple hh (items := #[Value.int (↑j) s.toks, x]) ⟨_, hT₂, rfl, _, rfl⟩ rfl rfl fun h₃ hs₃ => ?_
              have ne₂ : ∀ b o, s.heap.get? b = some o → b ≠ h₂.objs.size := fun b o z y => by
                have h1 := Heap.lt_size z
                have h2 : h₂.objs.size = s.heap.objs.size + 1 := hs₂.1.trans hsz
                rw [y, h2] at h1; exact Nat.not_succ_lt_self h1
              have k₃ : ∀ b o, b ∉ [a, b'] → s.heap.get? b = some o → h₃.get? b = some o := fun b o nb z =>
                hs₃ b o (ne₂ b o z) ((hs₂.2 b fun y => nb (by simp [y])).trans (kk b o (fun y => nb (by simp [y])) (fun y => nb (by simp [y])) z))
              have he₃ : IsEnum h₃ a b' (↑j + 1) x := hs₃ _ _ (ne₂ _ _ he) he₂
              have R₃ : h₃.IsListIter b' l (j + 1) := by
                obtain ⟨o, ho, r⟩ := R₁
                obtain ⟨ob, hob, _⟩ := R
                exact ⟨o, hs₃ _ _ (ne₂ _ _ hob) ((hs₂.2 b' (Ne.symm n)).trans ho), r⟩
              have It₃ : ItR h₃ ρ (.enum k (j + 1)) [a, b'] := ⟨l, x, el, by rw [show (((j + 1 : Nat)) : Int) = (j : Int) + 1 by omega]; exact he₃, R₃, n⟩
              have S₃ := sto_keep' S O hits k₃
              show wpAny _ _ (do holding [x] (assign (.Name (nth ns k₁) p₁) env (Value.int (↑j) s.toks)); assignInOrder [assign (.Name (nth ns k₂) p₂) env] [x]) Q E' _
              refine wpAny_bind (wpAny_holding (wpAny_assign_Name (store_sound (s := { s with heap := h₃, toks := s.toks + 1 }) S₃ h1 (hf.imp id fun y => by simp [tgl] at y; exact y.1) ⟨_, rfl⟩ fun h₄ tk₄ S₄ k₄ => ?_)))
              show wpAny _ _ (do holding [] (assign (.Name (nth ns k₂) p₂) env x); assignInOrder [] []) Q E' _
              refine wpAny_bind (wpAny_holding (wpAny_assign_Name (store_sound (s := { s with heap := h₄, toks := tk₄ }) S₄ ht (hf.imp id fun y => by rw [set_isCell h1]; simp [tgl] at y; exact y.2) hx fun h₅ tk₅ S₅ k₅ => ?_)))
              refine wpAny_pure (q h₅ tk₅ S₅ ?_ fun b o nb no z => k₅ b o (k₄ b o (k₃ b o nb z) no) no)
              have := It₃.keep (ν := []) (h' := h₅) fun b hb' o z => k₅ b o (k₄ b o z fun y => (O b hb').2 y.near) fun y => (O b hb').2 y.near
              rwa [List.append_nil] at this
            · cases hn
          · cases hn
      · cases ht
end
end Mine

namespace Mine
open PySem PySem.W PyProof.Rows

structure Amb (A : Around) (d : Nat) : Prop where
  hh : A.handled = none
  dep : A.depth + d < recursionLimit
  un : A.units + 4 * d + 100 < cLine

section
variable {prog : Program} {w : World} {A : Around} {R : Result → Shared → Prop} {s : Shared}
theorem while_step {test : PySem.Expr} {body : List Stmt} {env : Env}
    (h : wpAny (model prog w) A (isTrue test env (eval test env)) (fun b s₂ => if b then wpAny (model prog w) A (execs body env) (fun f s₃ => match f with
        | .next | .cont => codeAny (model prog w) A (.whileLoop test body [] env) R s₃
        | .brk => R (.ok .next) s₃
        | .ret v => R (.ok (.ret v)) s₃) (notedBy (model prog w) A env fun e s' => R (.error e) s') s₂
      else R (.ok .next) s₂) (notedBy (model prog w) A env fun e s' => R (.error e) s') s) : codeAny (model prog w) A (.whileLoop test body [] env) R s := by
  refine codeAny_of_tree ?_
  show wpAny _ A ((whileTurn test body [] env).onRaise (fun x => do noteFrame x env; theTreesLotGoes x)) _ _ s
  refine wpAny_noted ?_
  simp only [whileTurn]
  refine wpAny_bind (wpAny_mono h (fun b s₂ h₂ => ?_) fun _ _ h' => h')
  cases b with
  | false =>
    simp only [Bool.false_eq_true, if_false] at h₂ ⊢
    exact wpAny_bind (wpAny_execs_nil (wpAny_pure h₂))
  | true =>
    simp only [if_true] at h₂ ⊢
    refine wpAny_bind (wpAny_mono h₂ (fun f s₃ h₃ => ?_) fun _ _ h' => h')
    cases f with
    | next => exact wpAny_pure ⟨rfl, h₃⟩
    | cont => exact wpAny_pure ⟨rfl, h₃⟩
    | brk => exact wpAny_pure h₃
    | ret v => exact wpAny_pure h₃
theorem for_step {target : PySem.Expr} {it : Value} {body : List Stmt} {env : Env}
    (h : wpAny (model prog w) A (pyNext it) (fun r s₁ => match r with
      | none => R (.ok .next) s₁
      | some v => wpAny (model prog w) A (letOwnedTupleGo target it v) (fun _ s₁' =>
          wpAny (model prog w) A (assign target env v) (fun _ s₂ => wpAny (model prog w) A (execs body env) (fun f s₃ => match f with
            | .next | .cont => codeAny (model prog w) A (.forLoop target it body [] env) R s₃
            | .brk => R (.ok .next) s₃
            | .ret v => R (.ok (.ret v)) s₃) (notedBy (model prog w) A env fun e s' => R (.error e) s') s₂) (notedBy (model prog w) A env fun e s' => R (.error e) s') s₁') (notedBy (model prog w) A env fun e s' => R (.error e) s') s₁) (notedBy (model prog w) A env fun e s' => R (.error e) s') s) :
    codeAny (model prog w) A (.forLoop target it body [] env) R s := by
  refine codeAny_of_tree ?_
  show wpAny _ A ((forTurn target it body [] env).onRaise (fun x => do noteFrame x env; theTreesLotGoes x)) _ _ s
  refine wpAny_noted ?_
  simp only [forTurn]
  refine wpAny_bind (wpAny_standAt (wpAny_bind (wpAny_onRaise (wpAny_mono h (fun r s₁ h₁ => ?_) fun _ _ h' => wpAny_standAt h'))))
  cases r with
  | none => exact wpAny_pure ⟨rfl, codeAny_block (wpAny_execs_nil h₁)⟩
  | some v =>
    refine wpAny_bind (wpAny_mono h₁ (fun _ s₁' h₁' => ?_) fun _ _ h' => h')
    refine wpAny_bind (wpAny_mono h₁' (fun _ s₂ h₂ => wpAny_bind (wpAny_mono h₂ (fun f s₃ h₃ => ?_) fun _ _ h' => h')) fun _ _ h' => h')
    cases f with
    | next => exact wpAny_pure ⟨rfl, h₃⟩
    | cont => exact wpAny_pure ⟨rfl, h₃⟩
    | brk => exact wpAny_pure h₃
    | ret v => exact wpAny_pure h₃
theorem comp_step {elt target iter : PySem.Expr} {ifs : List PySem.Expr} {scope : Scope} {pos : Pos} {it acc : Value} {env : Env}
    (h : wpAny (model prog w) A (pyNext it) (fun r s₁ => match r with
      | none => R (.ok .next) s₁
      | some v => wpAny (model prog w) A (letOwnedTupleGo target it v) (fun _ s₁' => wpAny (model prog w) A (assign target env v) (fun _ s₂ =>
          wpAny (model prog w) A (forIn ifs true fun c r => if r = true then do let ok ← isTrue c env (eval c env); pure (ForInStep.yield ok) else pure (ForInStep.yield r)) (fun ok s₃ =>
            if ok = true then wpAny (model prog w) A (eval elt env) (fun x s₄ => wpAny (model prog w) A (call (.builtin "list.append") [acc, x]) (fun _ s₅ => codeAny (model prog w) A (.compLoop (.ListComp elt [⟨target, iter, ifs, 0⟩] scope pos) 0 it acc env) R s₅)
              (notedBy (model prog w) A env fun e s' => R (.error e) s') s₄) (notedBy (model prog w) A env fun e s' => R (.error e) s') s₃
            else codeAny (model prog w) A (.compLoop (.ListComp elt [⟨target, iter, ifs, 0⟩] scope pos) 0 it acc env) R s₃) (notedBy (model prog w) A env fun e s' => R (.error e) s') s₂)
          (notedBy (model prog w) A env fun e s' => R (.error e) s') s₁') (notedBy (model prog w) A env fun e s' => R (.error e) s') s₁) (notedBy (model prog w) A env fun e s' => R (.error e) s') s) :
    codeAny (model prog w) A (.compLoop (.ListComp elt [⟨target, iter, ifs, 0⟩] scope pos) 0 it acc env) R s := by
  refine codeAny_of_tree ?_
  show wpAny _ A ((compTurn (.ListComp elt [⟨target, iter, ifs, 0⟩] scope pos) 0 it acc env).onRaise (fun x => do noteFrame x env; theTreesLotGoes x)) _ _ s
  refine wpAny_noted ?_
  rw [compTurn_list]
  refine wpAny_bind (wpAny_standAt (wpAny_bind (wpAny_mono h (fun r s₁ h₁ => ?_) fun _ _ h' => h')))
  cases r with
  | none => exact wpAny_pure h₁
  | some v =>
    refine wpAny_bind (wpAny_mono h₁ (fun _ s₁' h₁' => wpAny_bind (wpAny_mono h₁' (fun _ s₂ h₂ => wpAny_bind (wpAny_mono h₂ (fun ok s₃ h₃ => ?_) fun _ _ h' => h')) fun _ _ h' => h')) fun _ _ h' => h')
    cases ok with
    | true =>
      exact wpAny_bind (wpAny_bind (wpAny_mono h₃ (fun x s₄ h₄ => wpAny_bind (wpAny_mono h₄ (fun _ s₅ h₅ => wpAny_pure (wpAny_pure ⟨rfl, h₅⟩)) fun _ _ h' => h')) fun _ _ h' => h'))
    | false => exact wpAny_pure ⟨rfl, h₃⟩
end

-- the module's functions
structure FnOk (G : List Str) (hb : Heap) (x : Str) (fe : FnE) (mg : Str → Option Value) (a : Addr) (o : Obj) (fd : FuncData) (ns : List Str) : Prop where
  glob : mg x = some (.ref a)
  get : hb.get? a = some o
  data : o.data = .func fd
  body : fd.body = .stmts (backSs G ns fe.body)
  kind : fd.scope.kind = .function
  coro : fd.scope.isCoroutine = false
  gen : fd.scope.isGenerator = false
  gl : fd.globals = mainGlobals
  clo : fd.closure = []
  bi : fd.builtins = builtinsNs
  code : hb.CodeRec fd.code fd.qualname
  bind : ∀ args : List Value, args.length = fe.np → bindArgs fd ⟨args, []⟩ = pure ((ns.take fe.np).zip args)
  nd : ns.Nodup
  dbg : ∀ x ∈ ns, (x == ("__debug__" : Str)) = false
  cells : fe.cells = ns.map fun x => fd.scope.names.lookup x == some .cell
  kinds : ∀ x ∈ ns, fd.scope.names.lookup x = some .local ∨ fd.scope.names.lookup x = some .cell
  np : fe.np ≤ ns.length
  wf : wfSs G ns fd.scope fe.body = true
structure Mod (P : List FnE) (G : List Str) (hb : Heap) : Prop where
  nolim : hb.NoLimit
  names : ∃ mg mb, hb.Ns mainGlobals mg ∧ hb.Ns builtinsNs mb ∧
    (∀ f fe, P[f]? = some fe → ∃ a o fd ns, FnOk G hb (nth G f) fe mg a o fd ns) ∧
    (∀ b : Bi, mg b.name = none ∧ mb b.name = some b.val) ∧
    (mg "range" = none ∧ mb "range" = some (.type "range")) ∧ (mg "enumerate" = none ∧ mb "enumerate" = some (.type "enumerate")) ∧ (mg "reversed" = none ∧ mb "reversed" = some (.type "reversed"))

theorem bindL_off {kf : Str → Option NameKind} : ∀ (l : List (Str × Value)) (m : Str → Option Value) (x : Str), x ∉ l.map (·.1) → bindL kf l m x = m x
  | [], _, _, _ => rfl
  | (n, v) :: r, m, x, h => by
    rw [bindL, bindL_off r _ x fun q => h (by simp [q])]
    split
    · exact if_neg fun (q : x = n) => h (by simp [q])
    · rfl
theorem bindL_at {kf : Str → Option NameKind} : ∀ (l : List (Str × Value)) (m : Str → Option Value) (x : Str) (v : Value), (l.map (·.1)).Nodup → (x, v) ∈ l → kf x = some .local → bindL kf l m x = some v
  | (n, u) :: r, m, x, v, nd, h, k => by
    rw [List.map_cons, List.nodup_cons] at nd
    rw [bindL]
    rcases List.mem_cons.mp h with e | h
    · cases e
      rw [bindL_off r _ _ nd.1, if_pos k]; exact if_pos rfl
    · exact bindL_at r _ x v nd.2 h k
theorem bindC_off {kf : Str → Option NameKind} : ∀ (l : List (Str × Value)) (m : Str → Option Value) (x : Str), x ∉ l.map (·.1) → bindC kf l m x = m x
  | [], _, _, _ => rfl
  | (n, v) :: r, m, x, h => by
    rw [bindC, bindC_off r _ x fun q => h (by simp [q])]
    split
    · rfl
    · exact if_neg fun (q : x = n) => h (by simp [q])
theorem bindC_at {kf : Str → Option NameKind} : ∀ (l : List (Str × Value)) (m : Str → Option Value) (x : Str) (v : Value), (l.map (·.1)).Nodup → (x, v) ∈ l → kf x ≠ some .local → bindC kf l m x = some v
  | (n, u) :: r, m, x, v, nd, h, k => by
    rw [List.map_cons, List.nodup_cons] at nd
    rw [bindC]
    rcases List.mem_cons.mp h with e | h
    · cases e
      rw [bindC_off r _ _ nd.1, if_neg k]; exact if_pos rfl
    · exact bindC_at r _ x v nd.2 h k
theorem mkSlots {env : Env} {h : Heap} {ρ : List Addr} {mL cm : Str → Option Value} {kf : Str → Bool} (hkf : ∀ x, kf x = true → env.kindOf x = some .cell)
    (hcell : ∀ x, env.kindOf x = some .cell → ∃ c, env.cells.lookup x = some c ∧ h.IsCell c (cm x)) :
    ∀ (ns : List Str) (vs : List V) (ws : List Value), VRs ρ vs ws → vs.length ≤ ns.length → (∀ x ∈ ns, kf x = false → env.kindOf x = some .local) →
      (∀ x w, (x, w) ∈ ns.zip ws → (env.kindOf x = some .local → mL x = some w) ∧ (env.kindOf x = some .cell → cm x = some w)) →
      Slots env h ρ mL ns ((ns.map kf).zip (vs.map some ++ List.replicate ((ns.map kf).length - vs.length) .none))
  | [], [], _, .nil, _, _, _ => .nil
  | [], _ :: _, _, _, l, _, _ => by simp at l
  | x :: ns, [], _, .nil, _, hl, hz => by
    have ih := mkSlots (env := env) (mL := mL) (ρ := ρ) hkf hcell ns [] [] .nil (Nat.zero_le _) (fun y hy => hl y (List.mem_cons_of_mem _ hy)) (fun y w hm => by simp at hm)
    simp only [List.map_cons, List.map_nil, List.nil_append, List.length_cons, List.length_nil, Nat.sub_zero, List.replicate_succ, List.zip_cons_cons] at ih ⊢
    refine .cons ?_ ih
    cases q : kf x with
    | false => exact ⟨hl x List.mem_cons_self q, fun v e => by cases e⟩
    | true =>
      obtain ⟨c, l, ic⟩ := hcell x (hkf x q)
      exact ⟨hkf x q, c, _, l, ic, fun v e => by cases e⟩
  | x :: ns, v :: vs, _, .cons (w := wv) (ws := ws) a r, l, hl, hz => by
    have ih := mkSlots (env := env) hkf hcell ns vs ws r (by simpa using l) (fun y hy => hl y (List.mem_cons_of_mem _ hy)) (fun y w hm => hz y w (by rw [List.zip_cons_cons]; exact List.mem_cons_of_mem _ hm))
    simp only [List.map_cons, List.cons_append, List.length_cons, Nat.add_sub_add_right, List.zip_cons_cons] at ih ⊢
    refine .cons ?_ ih
    have z := hz x wv (by rw [List.zip_cons_cons]; exact List.mem_cons_self)
    cases q : kf x with
    | false => exact ⟨hl x List.mem_cons_self q, fun v' e => by cases e; exact ⟨wv, z.1 (hl x List.mem_cons_self q), a⟩⟩
    | true =>
      obtain ⟨c, l, ic⟩ := hcell x (hkf x q)
      exact ⟨hkf x q, c, _, l, ic, fun v' e => by cases e; exact ⟨wv, z.2 (hkf x q), a⟩⟩
end Mine

namespace Mine
open PySem PySem.W PyProof.Rows

structure ExtX (env : Env) (X : List Addr) (ρ : List Addr) (h : Heap) (ρ' : List Addr) (h' : Heap) : Prop where
  pre : ∃ ν, ρ' = ρ ++ ν ∧ ∀ a ∈ ν, h.get? a = none
  keep : ∀ b o, h.get? b = some o → b ∉ ρ → ¬ Own env b → b ∉ X → h'.get? b = some o
theorem ExtS.toX {env : Env} {X ρ ρ' : List Addr} {h h' : Heap} (x : ExtS env ρ h ρ' h') : ExtX env X ρ h ρ' h' := ⟨x.pre, fun b o e n k _ => x.keep b o e n k⟩
theorem ExtX.trans {env : Env} {X ρ ρ₁ ρ₂ : List Addr} {h h₁ h₂ : Heap} (x : ExtX env X ρ h ρ₁ h₁) (l : ∀ a, a ∈ ρ ∨ Own env a ∨ a ∈ X → ∃ o, h₁.get? a = some o) (y : ExtX env X ρ₁ h₁ ρ₂ h₂) : ExtX env X ρ h ρ₂ h₂ := by
  obtain ⟨ν, rfl, hν⟩ := x.pre
  obtain ⟨μ, rfl, hμ⟩ := y.pre
  refine ⟨⟨ν ++ μ, by rw [List.append_assoc], fun a ha => ?_⟩, fun b o e hb hc hx => y.keep b o (x.keep b o e hb hc hx) (fun q => ?_) hc hx⟩
  · rcases List.mem_append.mp ha with q | q
    · exact hν a q
    · cases r : h.get? a with
      | none => rfl
      | some o =>
        by_cases ha' : a ∈ ρ ∨ Own env a ∨ a ∈ X
        · obtain ⟨o', l⟩ := l a ha'
          rw [hμ a q] at l; cases l
        · have z := x.keep a o r (fun q => ha' (.inl q)) (fun q => ha' (.inr (.inl q))) (fun q => ha' (.inr (.inr q)))
          rw [hμ a q] at z; cases z
  · rcases List.mem_append.mp q with q | q
    · exact hb q
    · rw [hν b q] at e; cases e
def FR (ρ : List Addr) : Fl → Flow → Prop
  | .next, f => f = .next
  | .ret v, f => ∃ x, f = .ret x ∧ VR ρ v x
def PB (ρ : List Addr) (s : Shared) (b : Bool) (m' : M) (Q : Bool → Shared → Prop) : Prop :=
  ∀ ρ' h' tk, Ext ρ s.heap ρ' h' → Sto h' ρ' m' → Q b { s with heap := h', toks := tk }
def PL (ρ : List Addr) (s : Shared) (vs : List V) (m' : M) (Q : List Value → Shared → Prop) : Prop :=
  ∀ ρ' h' tk ws, Ext ρ s.heap ρ' h' → Sto h' ρ' m' → VRs ρ' vs ws → Q ws { s with heap := h', toks := tk }
def PF (hb : Heap) (env : Env) (sc : Scope) (ns : List Str) (X ρ : List Addr) (s : Shared) (fl : Fl) (e' : E) (m' : M) (Q : Flow → Shared → Prop) : Prop :=
  ∀ ρ' h' tk f, ExtX env X ρ s.heap ρ' h' → St hb env sc ns e' ρ' m' h' → FR ρ' fl f → Q f { s with heap := h', toks := tk }
def EvOk (P : List FnE) (G : List Str) (d : Nat) (e : E) (m : M) (x : X) (v : V) (m' : M) : Prop :=
  ∀ (prog : Program) (w : World) (A : Around) (E' : Value → Shared → Prop) (s : Shared) (hb : Heap) (env : Env) (sc : Scope) (ns : List Str) (ρ : List Addr) (nest : Bool) (Q : Value → Shared → Prop),
    Amb A d → Mod P G hb → St hb env sc ns e ρ m s.heap → wfX G nest ns sc x = true → PO ρ s v m' Q → wpAny (model prog w) A (eval (back G ns x) env) Q E' s
def TsOk (P : List FnE) (G : List Str) (d : Nat) (e : E) (m : M) (x : X) (b : Bool) (m' : M) : Prop :=
  ∀ (prog : Program) (w : World) (A : Around) (E' : Value → Shared → Prop) (s : Shared) (hb : Heap) (env : Env) (sc : Scope) (ns : List Str) (ρ : List Addr) (nest : Bool) (Q : Bool → Shared → Prop),
    Amb A d → Mod P G hb → St hb env sc ns e ρ m s.heap → wfX G nest ns sc x = true → PB ρ s b m' Q → wpAny (model prog w) A (isTrue (back G ns x) env (eval (back G ns x) env)) Q E' s
def ExOk (P : List FnE) (G : List Str) (d : Nat) (e : E) (m : M) (ss : List S) (fl : Fl) (e' : E) (m' : M) : Prop :=
  ∀ (prog : Program) (w : World) (A : Around) (E' : Value → Shared → Prop) (s : Shared) (hb : Heap) (env : Env) (sc : Scope) (ns : List Str) (ρ : List Addr) (Q : Flow → Shared → Prop),
    Amb A d → Mod P G hb → St hb env sc ns e ρ m s.heap → env.scope = sc → env.func.isSome = true → wfSs G ns sc ss = true → PF hb env sc ns [] ρ s fl e' m' Q → wpAny (model prog w) A (execs (backSs G ns ss) env) Q E' s
def WhOk (P : List FnE) (G : List Str) (d : Nat) (e : E) (m : M) (t : X) (ss : List S) (fl : Fl) (e' : E) (m' : M) : Prop :=
  ∀ (prog : Program) (w : World) (A : Around) (s : Shared) (hb : Heap) (env : Env) (sc : Scope) (ns : List Str) (ρ : List Addr) (R : Result → Shared → Prop),
    Amb A d → Mod P G hb → St hb env sc ns e ρ m s.heap → env.scope = sc → env.func.isSome = true → wfX G true ns sc t = true → wfSs G ns sc ss = true → PF hb env sc ns [] ρ s fl e' m' (fun f => R (.ok f)) → codeAny (model prog w) A (.whileLoop (back G ns t) (backSs G ns ss) [] env) R s
def LoOk (P : List FnE) (G : List Str) (d : Nat) (e : E) (m : M) (tg : Tg) (it : It) (ss : List S) (fl : Fl) (e' : E) (m' : M) : Prop :=
  ∀ (prog : Program) (w : World) (A : Around) (s : Shared) (hb : Heap) (env : Env) (sc : Scope) (ns : List Str) (ρ its : List Addr) (a : Addr) (R : Result → Shared → Prop),
    Amb A d → Mod P G hb → St hb env sc ns e ρ m s.heap → env.scope = sc → env.func.isSome = true → wfSs G ns sc ss = true → ItR s.heap ρ it its → Off env ρ its → (∀ b ∈ its, hb.get? b = none) → its.head? = some a →
    PF hb env sc ns its ρ s fl e' m' (fun f => R (.ok f)) → codeAny (model prog w) A (.forLoop (tg.back ns) (.ref a) (backSs G ns ss) [] env) R s
def CpOk (P : List FnE) (G : List Str) (d : Nat) (e : E) (m : M) (tg : Tg) (it : It) (cond : List X) (elt : X) (acc : List V) (vs : List V) (m' : M) : Prop :=
  ∀ (prog : Program) (w : World) (A : Around) (s : Shared) (hb : Heap) (env : Env) (sc : Scope) (ns : List Str) (ρ its : List Addr) (a D : Addr) (ws : List Value) (n : Nat) (iter : PySem.Expr) (scope : Scope) (pos : Pos) (R : Result → Shared → Prop),
    Amb A d → Mod P G hb → St hb env sc ns e ρ m s.heap → wfX G false ns sc elt = true → wfXs G false ns sc cond = true → ItR s.heap ρ it its → Off env ρ its → (∀ b ∈ its, hb.get? b = none) → its.head? = some a →
    env.func = none → s.heap.get? D = some { cls := .type "list", data := .seq (List.toArray ws) n } → VRs ρ acc ws → D ∉ ρ → D ∉ its → ¬ Near env D → hb.get? D = none →
    (∀ ρ' h' tk ws' n' e', ExtX env (D :: its) ρ s.heap ρ' h' → St hb env sc ns e' ρ' m' h' → h'.get? D = some { cls := .type "list", data := .seq (List.toArray ws') n' } → VRs ρ' vs ws' → D ∉ ρ' → R (.ok .next) { s with heap := h', toks := tk }) →
    codeAny (model prog w) A (.compLoop (.ListComp (back G ns elt) [⟨tg.back ns, iter, backs G ns cond, 0⟩] scope pos) 0 (.ref a) (.ref D) env) R s
structure RecOk (P : List FnE) (G : List Str) (r : Rec) : Prop where
  ev : ∀ d e m x v m', r.ev d e m x = some (v, m') → EvOk P G d e m x v m'
  tst : ∀ d e m x b m', r.tst d e m x = some (b, m') → TsOk P G d e m x b m'
  exs : ∀ d e m ss fl e' m', r.exs d e m ss = some (fl, e', m') → ExOk P G d e m ss fl e' m'
  whl : ∀ d e m t ss fl e' m', r.whl d e m t ss = some (fl, e', m') → WhOk P G d e m t ss fl e' m'
  lop : ∀ d e m tg it ss fl e' m', r.lop d e m tg it ss = some (fl, e', m') → LoOk P G d e m tg it ss fl e' m'
  cpr : ∀ d e m tg it cond elt acc vs m', r.cpr d e m tg it cond elt acc = some (vs, m') → CpOk P G d e m tg it cond elt acc vs m'
theorem recOk_bot (P : List FnE) (G : List Str) : RecOk P G bot :=
  ⟨fun _ _ _ _ _ _ h => (nomatch h), fun _ _ _ _ _ _ h => (nomatch h), fun _ _ _ _ _ _ _ h => (nomatch h), fun _ _ _ _ _ _ _ _ h => (nomatch h), fun _ _ _ _ _ _ _ _ _ h => (nomatch h), fun _ _ _ _ _ _ _ _ _ _ h => (nomatch h)⟩

theorem star_back (G ns : List Str) (env : Env) : ∀ (x : X) (rest : List PySem.Expr), starEach (back G ns x :: rest) env = (false, eval (back G ns x) env) :: starEach rest env
  | .var .., _ => rfl | .int .., _ => rfl | .none .., _ => rfl | .bool .., _ => rfl | .bin .., _ => rfl | .neg .., _ => rfl | .cmp .., _ => rfl | .ite .., _ => rfl | .and .., _ => rfl | .or .., _ => rfl
  | .call .., _ => rfl | .bi .., _ => rfl | .sub .., _ => rfl | .upto .., _ => rfl | .from_ .., _ => rfl | .list .., _ => rfl | .tup .., _ => rfl | .comp .., _ => rfl | .bad, _ => rfl
theorem marks_back (G ns : List Str) (op : CmpOp) : ∀ (x : X), behindInMarks op (back G ns x) = false
  | .var .. => rfl | .int .. => rfl | .none .. => rfl | .bool .. => rfl | .bin .. => rfl | .neg .. => rfl | .cmp .. => rfl | .ite .. => rfl | .and .. => rfl | .or .. => rfl
  | .call .. => rfl | .bi .. => rfl | .sub .. => rfl | .upto .. => rfl | .from_ .. => rfl | .list .. => rfl | .tup .. => rfl | .comp .. => rfl | .bad => rfl
theorem subs_back (G ns : List Str) (o i : Value) : ∀ (x : X), subscripted (back G ns x) false o i = operate [o, i] (getItem o i)
  | .var .. => rfl | .int .. => rfl | .none .. => rfl | .bool .. => rfl | .bin .. => rfl | .neg .. => rfl | .cmp .. => rfl | .ite .. => rfl | .and .. => rfl | .or .. => rfl
  | .call .. => rfl | .bi .. => rfl | .sub .. => rfl | .upto .. => rfl | .from_ .. => rfl | .list .. => rfl | .tup .. => rfl | .comp .. => rfl | .bad => rfl
theorem fold_back (G ns : List Str) (env : Env) (v : Value) : ∀ (x : X), foldedSetIterable (back G ns x) env v = pure v
  | .var .. => rfl | .int .. => rfl | .none .. => rfl | .bool .. => rfl | .bin .. => rfl | .neg .. => rfl | .cmp .. => rfl | .ite .. => rfl | .and .. => rfl | .or .. => rfl
  | .call .. => rfl | .bi .. => rfl | .sub .. => rfl | .upto .. => rfl | .from_ .. => rfl | .list .. => rfl | .tup .. => rfl | .comp .. => rfl | .bad => rfl

section
variable {P : List FnE} {G : List Str} {r : Rec} {prog : Program} {w : World} {A : Around} {E' : Value → Shared → Prop} {s : Shared} {hb : Heap} {env : Env} {sc : Scope} {ns : List Str} {e : E} {ρ : List Addr} {m m' : M} {d : Nat} {nest : Bool}
theorem evs_sound (H : RecOk P G r) (a : Amb A d) (M₀ : Mod P G hb) {pos : Pos} : ∀ {xs : List X} {vs : List V} {m : M} {s : Shared} {ρ : List Addr} {Q : List Value → Shared → Prop}, evs r d e m xs = some (vs, m') → St hb env sc ns e ρ m s.heap → wfXs G nest ns sc xs = true → PL ρ s vs m' Q →
    wpAny (model prog w) A (spliced (backTo pos (starEach (backs G ns xs) env))) Q E' s
  | [], vs, m, s, ρ, Q, h, S, wf, p => by
    cases h
    exact Calls.spliced_nil (p ρ s.heap s.toks [] (Ext.refl ..) S.sto .nil)
  | x :: xs, vs, m, s, ρ, Q, h, S, wf, p => by
    unfold evs at h
    split at h
    · rename_i v m₁ h1
      split at h
      · rename_i vs' m₂ h2
        cases h
        simp only [wfXs, Bool.and_eq_true] at wf
        rw [backs, star_back]
        refine Calls.spliced_cons (H.ev _ _ _ _ _ _ h1 _ _ _ _ _ _ _ _ _ _ _ _ a M₀ S wf.1 fun ρ₁ h₁ tk₁ y x₁ s₁ v₁ => ?_)
        have S₁ := S.ext x₁ s₁
        refine evs_sound H a M₀ (s := { s with heap := h₁, toks := tk₁ }) h2 S₁ wf.2 fun ρ₂ h₂ tk₂ ws x₂ s₂ v₂ => ?_
        exact p ρ₂ h₂ tk₂ (y :: ws) (x₁.trans (x₁.sub s₁) x₂) s₂ (.cons (x₂.vr v₁) v₂)
      · cases h
    · cases h
theorem name_glob {x : Str} {pos : Pos} {v : Value} {Q : Value → Shared → Prop} (S : St hb env sc ns e ρ m s.heap) (g : glob sc x = true) {mg : Str → Option Value} (hg : hb.Ns mainGlobals mg) (hv : mg x = some v) (q : Q v s) :
    wpAny (model prog w) A (eval (.Name x pos) env) Q E' s := by
  simp only [glob, Bool.and_eq_true, beq_iff_eq, Bool.not_eq_true'] at g
  refine Calls.Name_function_global S.env.fn (S.env.gi x g.1) (Calls.loadGlobal_global (mg := mg) ?_ hv q) g.2
  rw [S.env.gl]
  obtain ⟨o, es, ep, ho, hr⟩ := hg
  exact ⟨o, es, ep, S.base.keep _ _ ho, hr⟩
theorem name_bi {x : Str} {pos : Pos} {v : Value} {Q : Value → Shared → Prop} (S : St hb env sc ns e ρ m s.heap) (g : glob sc x = true) {mg mb : Str → Option Value} (hg : hb.Ns mainGlobals mg) (hb' : hb.Ns builtinsNs mb) (hn : mg x = none) (hv : mb x = some v) (q : Q v s) :
    wpAny (model prog w) A (eval (.Name x pos) env) Q E' s := by
  simp only [glob, Bool.and_eq_true, beq_iff_eq, Bool.not_eq_true'] at g
  refine Calls.Name_function_global S.env.fn (S.env.gi x g.1) (Calls.loadGlobal_builtin (mg := mg) (mb := mb) ?_ hn ?_ hv q) g.2
  · rw [S.env.gl]
    obtain ⟨o, es, ep, ho, hr⟩ := hg
    exact ⟨o, es, ep, S.base.keep _ _ ho, hr⟩
  · rw [S.env.bi]
    obtain ⟨o, es, ep, ho, hr⟩ := hb'
    exact ⟨o, es, ep, S.base.keep _ _ ho, hr⟩
/-- a call of a type or a built-in by its name -/
theorem call_name {x : Str} {pf pos : Pos} {f : Value} {xs : List X} {vs : List V} {Q : Value → Shared → Prop} (H : RecOk P G r) (a : Amb A d) (M₀ : Mod P G hb) (S : St hb env sc ns e ρ m s.heap) (g : glob sc x = true) {mg mb : Str → Option Value}
    (hg : hb.Ns mainGlobals mg) (hb' : hb.Ns builtinsNs mb) (hn : mg x = none) (hv : mb x = some f) (hf : (∃ id, f = .builtin id) ∨ ∃ id, f = .type id) (ne : xs.isEmpty = false) (h : evs r d e m xs = some (vs, m')) (wf : wfXs G nest ns sc xs = true)
    (p : PL ρ s vs m' fun ws s' => wpAny (model prog w) A (call f ws) Q E' s') : wpAny (model prog w) A (eval (.Call (.Name x pf) (backs G ns xs) [] pos) env) Q E' s := by
  show wpAny (model prog w) A (do callWith pos (← eval (.Name x pf) env) [] (backTo pos (starEach (backs G ns xs) env)) []) Q E' s
  refine wpAny_bind (name_bi S g hg hb' hn hv ?_)
  cases xs with
  | nil => cases ne
  | cons y ys =>
    have key : wpAny (model prog w) A (evalArgs f true (backTo pos (starEach (backs G ns (y :: ys)) env)) []) (fun a s₁ => wpAny (model prog w) A (call f ([] ++ a.pos) a.kw) Q E' s₁) E' s := by
      have sp := evs_sound (prog := prog) (w := w) (E' := E') (pos := pos) H a M₀ h S wf p
      rw [backs, star_back] at sp ⊢
      exact Calls.evalArgs_plain sp
    have np : (backTo pos (starEach (backs G ns (y :: ys)) env)).any (·.1) = false := by
      clear key p wf h S g hn hv hg hb'
      generalize y :: ys = zs
      induction zs with
      | nil => rfl
      | cons z zs ih => rw [backs, star_back]; simpa [backTo] using ih
    rcases hf with ⟨id, rfl⟩ | ⟨id, rfl⟩
    · exact Calls.callWith_builtin np key
    · unfold callWith
      refine wpAny_bind (wpAny_holding (wpAny_mono key (fun a s₁ h₁ => wpAny_bind (wpAny_standAt ?_)) fun _ _ x => x))
      simp only [np, List.any_nil, Bool.or_false]
      refine wpAny_bind (wpAny_pure ?_)
      exact wpAny_bind (wpAny_mono h₁ (fun r s₂ hr => wpAny_bind (wpAny_holding (wpAny_point (wpAny_pure hr)))) fun _ _ x => x)
end
end Mine

namespace Mine
open PySem PySem.W PyProof.Rows

theorem zip_take {α β : Type} : ∀ (l : List α) (r : List β), l.zip r = (l.take r.length).zip r
  | [], r => by simp
  | a :: l, [] => by simp
  | a :: l, b :: r => by simp only [List.zip_cons_cons, List.length_cons, List.take_succ_cons]; rw [zip_take l r]
section
variable {P : List FnE} {G : List Str} {r : Rec} {prog : Program} {w : World} {A : Around} {E' : Value → Shared → Prop} {s : Shared} {hb : Heap} {env : Env} {sc : Scope} {ns : List Str} {e : E} {ρ : List Addr} {m m' : M} {d : Nat} {nest : Bool}
theorem Amb.deeper (a : Amb A (d + 1)) (env : Env) : Amb (A.deeper env) d := by
  refine ⟨a.hh, ?_, ?_⟩
  · have := a.dep
    show A.depth + 1 + d < _
    omega
  · have := a.un
    show A.units + 3 + 4 * d + 100 < _
    omega
theorem call_sound (H : RecOk P G r) (a : Amb A (d + 1)) (M₀ : Mod P G hb) (S : St hb env sc ns e ρ m s.heap) {f : Nat} {as : List X} {pf pos : Pos} {fe : FnE} {vs : List V} {m₁ : M} {fl : Fl} {e' : E} {v : V} {Q : Value → Shared → Prop}
    (hf : P[f]? = some fe) (h1 : evs r (d + 1) e m as = some (vs, m₁)) (hl : vs.length = fe.np)
    (h2 : r.exs d (fe.cells.zip (vs.map some ++ List.replicate (fe.cells.length - vs.length) .none)) m₁ fe.body = some (fl, e', m')) (hv : (match fl with | .ret v => v | .next => V.none) = v)
    (wf : (glob sc (nth G f) && !as.isEmpty && wfXs G nest ns sc as) = true) (p : PO ρ s v m' Q) : wpAny (model prog w) A (eval (.Call (.Name (nth G f) pf) (backs G ns as) [] pos) env) Q E' s := by
  simp only [Bool.and_eq_true, Bool.not_eq_true'] at wf
  obtain ⟨⟨g, ne⟩, wfa⟩ := wf
  obtain ⟨mg, mb, hg, hbn, fns, _⟩ := M₀.names
  obtain ⟨fa, o, fd, ns', F⟩ := fns f fe hf
  show wpAny (model prog w) A (do callWith pos (← eval (.Name (nth G f) pf) env) [] (backTo pos (starEach (backs G ns as) env)) []) Q E' s
  refine wpAny_bind (name_glob S g hg F.glob ?_)
  refine Calls.callWith_function (o := o) (fd := fd) ?_
  cases as with
  | nil => cases ne
  | cons y ys =>
    have sp := evs_sound (prog := prog) (w := w) (E' := E') (pos := pos) (s := s) (Q := fun ws s₁ => (s₁.heap.get? fa = some o ∧ o.data = .func fd) ∧ wpAny (model prog w) A (call (.ref fa) ([] ++ ws) []) Q E' s₁) H a M₀ h1 S wfa ?_
    · rw [backs, star_back] at sp ⊢
      exact Calls.evalArgs_plain sp
    · intro ρ₁ h₁ tk₁ ws x₁ s₁ v₁
      have S₁ := S.ext x₁ s₁
      refine ⟨⟨S₁.base.keep _ _ F.get, F.data⟩, ?_⟩
      have wl : ws.length = fe.np := v₁.length.symm.trans hl
      refine wpAny_call (codeAny_call_function (s := { s with heap := h₁, toks := tk₁ }) (by have := a.dep; omega) (S₁.base.keep _ _ F.get) F.data F.coro F.gen F.body ?_ ?_)
      · obtain ⟨c, oc, vs, tq, hc, hoc, hdc, hq⟩ := F.code
        exact ⟨c, oc, vs, tq, hc, S₁.base.keep _ _ hoc, hdc, hq⟩
      rw [show ([] : List Value) ++ ws = ws from rfl, F.bind ws wl]
      refine wpAny_pure ?_
      rw [F.clo]
      have mem_ns : ∀ x ∈ (ns'.take fe.np).zip ws, x.1 ∈ ns' := fun x hx => List.mem_of_mem_take (List.of_mem_zip hx).1
      refine wpAny_newFunctionEnv_cells F.kind (fun x hx => (F.kinds x.1 (mem_ns x hx)).imp id fun q => ⟨q, cellsFrom_some _ _ _ (.inl q)⟩) fun env' he s' x => ?_
      subst he
      have kp := x.toInCall.keep
      refine ⟨Heap.NoLimit.keeps M₀.nolim fun b o q => kp b o (S₁.base.keep b o q), codeAny_func ?_⟩
      obtain ⟨h₂, tk₂, rfl, _⟩ := x.done
      have live₁ : ∀ b, (∃ o, h₁.get? b = some o) → b < h₁.objs.size := fun b ⟨o, q⟩ => Heap.lt_size q
      have nodup : (((ns'.take fe.np).zip ws).map (·.1)).Nodup := by
        rw [List.map_fst_zip (by rw [wl, List.length_take]; omega)]
        exact (List.take_sublist _ _).nodup F.nd
      have St' : St hb (newEnv fd.scope h₁.objs.size fd.globals (cellsFrom (h₁.objs.size + 1) fd.scope.names []) (fd.qualname ++ ".<locals>.") (some fa) fd.code none fd.builtins) fd.scope ns' (fe.cells.zip (vs.map some ++ List.replicate (fe.cells.length - vs.length) .none)) ρ₁ m₁ h₂ := by
        refine ⟨s₁.keep fun b o _ => kp b o, S₁.base.ext (.of_keep kp), fun b q => ?_, ⟨F.kind, F.gl, F.bi, fun _ q => q, fun _ q => q, F.dbg, F.nd, fun q => ?_, fun y c l => ⟨fun q => ?_, ?_, _, x.cell y c l⟩, fun y z c l l' => ?_, _, x.toInCall.ns, ?_⟩⟩
        · cases z : hb.get? b with
          | none => rfl
          | some ob =>
            have lt := Heap.lt_size (S₁.base.keep _ _ z)
            rcases q with rfl | ⟨y, q⟩
            · exact absurd lt (Nat.lt_irrefl _)
            · exact absurd (Nat.lt_trans (x.above y b (mem_of_lookup q)) lt) (Nat.lt_irrefl _)
        · exact absurd (live₁ _ (s₁.live _ q)) (Nat.lt_irrefl _)
        · exact absurd (Nat.lt_trans (x.above y c (mem_of_lookup l)) (live₁ _ (s₁.live _ q))) (Nat.lt_irrefl _)
        · exact Nat.ne_of_gt (x.above y c (mem_of_lookup l))
        · exact name_of_addr x.apart (mem_of_lookup l) (mem_of_lookup l')
        · rw [F.cells]
          refine mkSlots (kf := fun x => fd.scope.names.lookup x == some .cell) (cm := bindC (newEnv fd.scope h₁.objs.size fd.globals (cellsFrom (h₁.objs.size + 1) fd.scope.names []) (fd.qualname ++ ".<locals>.") (some fa) fd.code none fd.builtins).kindOf ((ns'.take fe.np).zip ws) fun _ => none) (fun y q => ?_) (fun y q => ?_) ns' vs ws v₁ (by rw [hl]; exact F.np) (fun y hy q => ?_) fun y u hy => ?_
          · exact beq_iff_eq.mp q
          · have q' : fd.scope.names.lookup y = some .cell := q
            obtain ⟨c, l⟩ := Option.isSome_iff_exists.mp (cellsFrom_some (x := y) fd.scope.names (h₁.objs.size + 1) [] (.inl q'))
            exact ⟨c, l, x.cell y c l⟩
          · rcases F.kinds y hy with z | z
            · exact z
            · simp [z] at q
          · rw [zip_take, wl] at hy
            exact ⟨fun k => bindL_at _ _ _ _ nodup hy k, fun k => bindC_at _ _ _ _ nodup hy (by rw [k]; intro z; cases z)⟩
      refine H.exs _ _ _ _ _ _ _ h2 _ _ _ _ { s with heap := h₂, toks := tk₂ } _ _ _ _ _ _ (a.deeper _) M₀ St' rfl rfl F.wf fun ρ₂ h₃ tk₃ f x₂ S₂ fr => ?_
      have ext : Ext ρ₁ h₁ ρ₂ h₃ := by
        obtain ⟨ν, e, hν⟩ := x₂.pre
        refine ⟨⟨ν, e, fun b q => ?_⟩, fun b ob q nb => x₂.keep b ob (kp b ob q) nb (fun z => ?_) (fun z => nomatch z)⟩
        · cases z : h₁.get? b with
          | none => rfl
          | some ob => have := kp b ob z; rw [hν b q] at this; cases this
        · have lt := Heap.lt_size q
          rcases z with rfl | ⟨_, y, z⟩
          · exact Nat.lt_irrefl _ lt
          · exact Nat.lt_irrefl _ (Nat.lt_trans (x.above y b (mem_of_lookup z)) lt)
      have full := x₁.trans (x₁.sub s₁) ext
      cases fl with
      | next => cases fr; cases hv; exact p ρ₂ h₃ tk₃ _ full S₂.sto rfl
      | ret u => obtain ⟨z, rfl, vz⟩ := fr; cases hv; exact p ρ₂ h₃ tk₃ _ full S₂.sto vz
end
end Mine

namespace Mine
open PySem PySem.W PyProof.Rows

theorem Sto.add {h : Heap} {ρ : List Addr} {m : M} (s : Sto h ρ m) {a : Addr} (hn : a ∉ ρ) {o : O} (ho : OR h ρ a o) : Sto h (ρ ++ [a]) (m.new o).2 := by
  have la : ∃ o', h.get? a = some o' := by
    cases o with
    | list => obtain ⟨_, _, q, _⟩ := ho; exact ⟨_, q⟩
    | tup => obtain ⟨_, _, q, _⟩ := ho; exact ⟨_, q⟩
  refine ⟨?_, List.nodup_append.mpr ⟨s.nd, (by simp), fun x hx y hy q => ?_⟩, fun i o' q => ?_, fun b q => ?_⟩
  · show m.n + 1 = _
    rw [List.length_append, List.length_singleton, s.n]
  · rw [List.mem_singleton.mp hy] at q; subst q; exact hn hx
  · rcases T.put_get _ _ _ _ _ _ q with ⟨rfl, rfl⟩ | q
    · exact ⟨a, by rw [s.n, List.getElem?_append_right (Nat.le_refl _), Nat.sub_self]; rfl, ho.mono⟩
    · obtain ⟨b, r, z⟩ := s.at_ i o' q
      exact ⟨b, by rw [List.getElem?_append_left (List.getElem?_eq_some_iff.mp r).1]; exact r, z.mono⟩
  · rcases List.mem_append.mp q with q | q
    · exact s.live b q
    · rw [List.mem_singleton.mp q]; exact la
theorem Ext.back {ρ ρ' : List Addr} {h h' : Heap} (x : Ext ρ h ρ' h') (l : ∀ a ∈ ρ, ∃ o, h'.get? a = some o) {b : Addr} (n : h'.get? b = none) : h.get? b = none := by
  cases r : h.get? b with
  | none => rfl
  | some o =>
    by_cases z : b ∈ ρ
    · obtain ⟨o', q⟩ := l b z; rw [n] at q; cases q
    · rw [x.keep b o r z] at n; cases n
section
variable {P : List FnE} {G : List Str} {r : Rec} {prog : Program} {w : World} {A : Around} {E' : Value → Shared → Prop} {s : Shared} {hb : Heap} {env : Env} {sc : Scope} {ns : List Str} {e : E} {ρ : List Addr} {m m' : M} {d : Nat} {nest : Bool}

theorem reiter {it : It} {its : List Addr} {a : Addr} {Q : Value → Shared → Prop} (R : ItR s.heap ρ it its) (ha : its.head? = some a) (q : Q (.ref a) s) : wpAny (model prog w) A (pyIter (.ref a)) Q E' s := by
  match it, its, R with
  | .lst k i, [a'], ⟨l, e, R⟩ => cases ha; exact wpAny_pyIter_listiter R q
  | .enum k i, [a', b'], ⟨l, old, e, he, R, n⟩ => cases ha; exact wpAny_pyIter_enum he q
  | .rev k c, [a'], ⟨l, e, R⟩ => cases ha; exact wpAny_pyIter_revIter R q
  | .rng x left step, [a'], R => cases ha; exact wpAny_pyIter_rangeiter R q

def Start (ρ : List Addr) (s : Shared) (it : It) (m' : M) (K : Value → Shared → Prop) : Prop :=
  ∀ ρ₁ h₁ tk its a, Ext ρ s.heap ρ₁ h₁ → Sto h₁ ρ₁ m' → ItR h₁ ρ₁ it its → its.head? = some a → (∀ b ∈ its, b ∉ ρ₁ ∧ s.heap.get? b = none) → K (.ref a) { s with heap := h₁, toks := tk }
theorem fresh_push {h : Heap} {ρ : List Addr} {m : M} (S : Sto h ρ m) : h.objs.size ∉ ρ := fun q => by
  obtain ⟨o, r⟩ := S.live _ q
  rw [none_size] at r; cases r
theorem start_sound (H : RecOk P G r) (am : Amb A d) (M₀ : Mod P G hb) (S : St hb env sc ns e ρ m s.heap) {sk : Sk} {sx : List X} {pf ps : Pos} {it : It} {K : Value → Shared → Prop} (h : start r d e m sk sx = some (it, m'))
    (g : srcG sc sk = true) (ne : sx.isEmpty = false) (wf : wfXs G nest ns sc sx = true) (p : Start ρ s it m' K) :
    wpAny (model prog w) A (eval (srcOf sk (backs G ns sx) pf ps) env) (fun x s₁ => wpAny (model prog w) A (pyIter x) K E' s₁) E' s := by
  obtain ⟨mg, mb, hg, hbn, fns, bis, hr, he, hv⟩ := M₀.names
  unfold start at h
  cases sk with
  | plain =>
    simp only at h
    split at h
    · rename_i x
      split at h
      · rename_i k m₁ h1
        split at h
        · rename_i vs ek
          cases h
          simp only [wfXs, Bool.and_eq_true] at wf
          show wpAny (model prog w) A (eval (back G ns x) env) _ E' s
          refine H.ev _ _ _ _ _ _ h1 _ _ _ _ _ _ _ _ _ _ _ _ am M₀ S wf.1 fun ρ₁ h₁ tk₁ y x₁ s₁ v₁ => ?_
          obtain ⟨l, ws, n, rfl, el, hl, hvs⟩ := Sto.list (s := { s with heap := h₁, toks := tk₁ }) s₁ ek v₁
          refine wpAny_pyIter_list (s := { s with heap := h₁, toks := tk₁ }) (isList_of hl) ?_
          refine p ρ₁ _ tk₁ [h₁.objs.size] h₁.objs.size (x₁.trans (x₁.sub s₁) (.of_keep (push_keep h₁ _))) (s₁.keep fun b o _ => push_keep h₁ _ b o) ⟨l, el, _, Heap.get?_push_size _ rfl, rfl, rfl⟩ rfl fun b q => ?_
          rw [List.mem_singleton.mp q]
          exact ⟨fresh_push s₁, x₁.back (x₁.sub s₁) (none_size h₁)⟩
        · cases h
      · cases h
    · cases h
  | enum =>
    simp only at h
    split at h
    · rename_i x
      split at h
      · rename_i k m₁ h1
        split at h
        · rename_i vs ek
          cases h
          refine call_name (f := .type "enumerate") (vs := [.ref k]) (m' := m') H am M₀ S g hg hbn he.1 he.2 (.inr ⟨_, rfl⟩) ne (by unfold evs; rw [h1]; rfl) wf fun ρ₁ h₁ tk₁ ws x₁ s₁ v₁ => ?_
          cases v₁ with
          | cons v₁ v₂ =>
            cases v₂
            obtain ⟨l, ws, n, rfl, el, hl, hvs⟩ := Sto.list (s := { s with heap := h₁, toks := tk₁ }) s₁ ek v₁
            refine call_enumerate_list (s := { s with heap := h₁, toks := tk₁ }) (isList_of hl) fun h' i1 i2 sz kp => ?_
            refine wpAny_pyIter_enum i1 ?_
            refine p ρ₁ h' tk₁ [h₁.objs.size + 1, h₁.objs.size] _ (x₁.trans (x₁.sub s₁) (.of_keep kp)) (s₁.keep fun b o _ => kp b o) ⟨l, _, el, i1, i2, Nat.succ_ne_self _⟩ rfl fun b q => ?_
            have hi : ∀ b, h₁.objs.size ≤ b → h₁.get? b = none := fun b q => by
              cases z : h₁.get? b with
              | none => rfl
              | some o => exact absurd (Heap.lt_size z) (Nat.not_lt.mpr q)
            have hn : h₁.get? b = none := by
              rcases List.mem_cons.mp q with rfl | q
              · exact hi _ (Nat.le_succ _)
              · rw [List.mem_singleton.mp q]; exact none_size h₁
            refine ⟨fun z => ?_, x₁.back (x₁.sub s₁) hn⟩
            obtain ⟨o, y⟩ := s₁.live b z
            rw [hn] at y; cases y
        · cases h
      · cases h
    · cases h
  | rev =>
    simp only at h
    split at h
    · rename_i x
      split at h
      · rename_i k m₁ h1
        split at h
        · rename_i vs ek
          split at h
          · cases h
            refine call_name (f := .type "reversed") (vs := [.ref k]) (m' := m') H am M₀ S g hg hbn hv.1 hv.2 (.inr ⟨_, rfl⟩) ne (by unfold evs; rw [h1]; rfl) wf fun ρ₁ h₁ tk₁ ws x₁ s₁ v₁ => ?_
            cases v₁ with
            | cons v₁ v₂ =>
              cases v₂
              obtain ⟨l, ws, n, rfl, el, hl, hvs⟩ := Sto.list (s := { s with heap := h₁, toks := tk₁ }) s₁ ek v₁
              refine call_reversed_list (s := { s with heap := h₁, toks := tk₁ }) (isList_of hl) ?_
              have rv : (h₁.push (revObj l ((ws.toArray.size : Int) - 1))).IsRevIter h₁.objs.size l ((vs.length : Int) - 1) := by
                rw [hvs.length, show ws.length = ws.toArray.size by simp]
                exact ⟨_, Heap.get?_push_size _ rfl, rfl, rfl⟩
              refine wpAny_pyIter_revIter (s := { s with heap := h₁.push (revObj l ((ws.toArray.size : Int) - 1)), toks := tk₁ }) rv ?_
              refine p ρ₁ _ tk₁ [h₁.objs.size] h₁.objs.size (x₁.trans (x₁.sub s₁) (.of_keep (push_keep h₁ _))) (s₁.keep fun b o _ => push_keep h₁ _ b o) ⟨l, el, rv⟩ rfl fun b q => ?_
              rw [List.mem_singleton.mp q]
              exact ⟨fresh_push s₁, x₁.back (x₁.sub s₁) (none_size h₁)⟩
          · cases h
        · cases h
      · cases h
    · cases h
  | range =>
    have fin : ∀ (ρ₁ : List Addr) (h₁ : Heap) (tk₁ tk₂ : Nat) (a b c : Int) (t u v : Tok), Ext ρ s.heap ρ₁ h₁ → Sto h₁ ρ₁ m' → Builtin.Range.small a b c = true → it = .rng a (Builtin.Range.rangeSize a b c) c →
        wpAny (model prog w) A (pyIter (.ref h₁.objs.size)) K E' { s with heap := h₁.push { cls := .type "range", data := .fields #[.int a t, .int b u, .int c v] }, toks := tk₂ } := by
      intro ρ₁ h₁ tk₁ tk₂ a b c t u v x₁ s₁ sml e
      subst e
      refine wpAny_pyIter_range (s := { s with heap := h₁.push { cls := .type "range", data := .fields #[.int a t, .int b u, .int c v] }, toks := tk₂ }) (IsRange.new h₁ a b c t u v) sml ?_
      have kp : ∀ b' o, h₁.get? b' = some o → ((h₁.push { cls := .type "range", data := .fields #[.int a t, .int b u, .int c v] }).push { cls := .type "range_iterator", data := .fields #[rawInt a, rawInt (Builtin.Range.rangeSize a b c), rawInt c] }).get? b' = some o :=
        fun b' o z => push_keep _ _ b' o (push_keep _ _ b' o z)
      refine p ρ₁ _ tk₂ [_] _ (x₁.trans (x₁.sub s₁) (.of_keep kp)) (s₁.keep fun b' o _ => kp b' o) (Heap.get?_push_size _ rfl) rfl fun b' q => ?_
      rw [List.mem_singleton.mp q]
      have hn : h₁.get? (h₁.push { cls := .type "range", data := .fields #[.int a t, .int b u, .int c v] }).objs.size = none := by
        cases z : h₁.get? (h₁.push { cls := .type "range", data := .fields #[.int a t, .int b u, .int c v] }).objs.size with
        | none => rfl
        | some o => have := Heap.lt_size z; rw [Heap.size_push] at this; exact absurd this (Nat.not_lt.mpr (Nat.le_succ _))
      refine ⟨fun z => ?_, x₁.back (x₁.sub s₁) hn⟩
      obtain ⟨o, y⟩ := s₁.live _ z
      rw [hn] at y; cases y
    simp only at h
    split at h
    · rename_i b m₁ h1
      split at h
      · rename_i q
        cases h
        refine call_name (f := .type "range") H am M₀ S g hg hbn hr.1 hr.2 (.inr ⟨_, rfl⟩) ne h1 wf fun ρ₁ h₁ tk₁ ws x₁ s₁ v₁ => ?_
        cases v₁ with
        | cons v₁ v₂ =>
          cases v₂
          obtain ⟨t, rfl⟩ := v₁
          exact call_range_1 (s := { s with heap := h₁, toks := tk₁ }) (fin ρ₁ h₁ tk₁ _ 0 b 1 _ _ _ x₁ s₁ q rfl)
      · cases h
    · rename_i a b m₁ h1
      split at h
      · rename_i q
        cases h
        refine call_name (f := .type "range") H am M₀ S g hg hbn hr.1 hr.2 (.inr ⟨_, rfl⟩) ne h1 wf fun ρ₁ h₁ tk₁ ws x₁ s₁ v₁ => ?_
        cases v₁ with
        | cons v₁ v₂ =>
          cases v₂ with
          | cons v₂ v₃ =>
            cases v₃
            obtain ⟨t, rfl⟩ := v₁
            obtain ⟨t', rfl⟩ := v₂
            exact call_range_2 (s := { s with heap := h₁, toks := tk₁ }) (fin ρ₁ h₁ tk₁ _ a b 1 _ _ _ x₁ s₁ q rfl)
      · cases h
    · rename_i a b c m₁ h1
      split at h
      · rename_i q
        cases h
        simp only [Bool.and_eq_true] at q
        have ec := (W.Z.eqB_iff _ _).mp q.2
        refine call_name (f := .type "range") H am M₀ S g hg hbn hr.1 hr.2 (.inr ⟨_, rfl⟩) ne h1 wf fun ρ₁ h₁ tk₁ ws x₁ s₁ v₁ => ?_
        cases v₁ with
        | cons v₁ v₂ =>
          cases v₂ with
          | cons v₂ v₃ =>
            cases v₃ with
            | cons v₃ v₄ =>
              cases v₄
              obtain ⟨t, rfl⟩ := v₁
              obtain ⟨t', rfl⟩ := v₂
              obtain ⟨t'', rfl⟩ := v₃
              exact PySem.call_range_3 (s := { s with heap := h₁, toks := tk₁ }) (by rw [ec]; decide) (fin ρ₁ h₁ tk₁ _ a b c _ _ _ x₁ s₁ q.1 rfl) (.inl (PyProof.noPylong_small (by rw [ec]; decide)))
      · cases h
    · cases h
end
end Mine

namespace Mine
open PySem PySem.W PyProof.Rows

theorem closure_in {env : Env} (f : Str × NameKind → List (Str × Addr) → Sem (ForInStep (List (Str × Addr))))
    (hf : ∀ name kind cs, f (name, kind) cs = if kind == .free then (do let a ← cellOf env name; pure (.yield ((name, a) :: cs))) else pure (.yield cs)) :
    ∀ (names : List (Str × NameKind)) (acc : List (Str × Addr)), (∀ x ∈ names, x.2 = .free → ∃ c, env.cells.lookup x.1 = some c) →
      ∃ cl, forIn names acc f = (pure cl : Sem _) ∧ (∀ y c, cl.lookup y = some c → acc.lookup y = some c ∨ env.cells.lookup y = some c) ∧ (∀ y, ((y, NameKind.free) ∈ names ∨ (acc.lookup y).isSome = true) → (cl.lookup y).isSome = true)
  | [], acc, _ => ⟨acc, by rw [List.forIn_nil], fun _ _ h => .inl h, fun y h => h.elim (fun z => nomatch z) id⟩
  | (n, k) :: r, acc, h => by
    cases hk : k == NameKind.free with
    | false =>
      obtain ⟨cl, e, q, z⟩ := closure_in f hf r acc fun x hx => h x (List.mem_cons_of_mem _ hx)
      refine ⟨cl, ?_, q, fun y hy => z y (hy.imp (fun u => ?_) id)⟩
      · rw [List.forIn_cons, hf, hk]
        simp only [Bool.false_eq_true, if_false, pure_bind]
        exact e
      · rcases List.mem_cons.mp u with u | u
        · cases u; cases hk
        · exact u
    | true =>
      have hk' : k = .free := by simpa using hk
      obtain ⟨c, hc⟩ := h (n, k) List.mem_cons_self hk'
      obtain ⟨cl, e, q, z⟩ := closure_in f hf r ((n, c) :: acc) fun x hx => h x (List.mem_cons_of_mem _ hx)
      refine ⟨cl, ?_, fun y c' hy => ?_, fun y hy => z y ?_⟩
      · rw [List.forIn_cons, hf, hk]
        have : cellOf env n = pure c := by unfold cellOf; rw [hc]
        simp only [if_true, this, pure_bind]
        exact e
      · rcases q y c' hy with u | u
        · rw [List.lookup_cons] at u
          cases b : y == n with
          | true => rw [b] at u; cases u; exact .inr (by rw [beq_iff_eq.mp b]; exact hc)
          | false => rw [b] at u; exact .inl u
        · exact .inr u
      · rcases hy with u | u
        · rcases List.mem_cons.mp u with u | u
          · cases u; exact .inr (by rw [List.lookup_cons, beq_self_eq_true]; rfl)
          · exact .inl u
        · right
          rw [List.lookup_cons]
          cases b : y == n with
          | true => rfl
          | false => exact u
theorem closure_ok {env : Env} {scope : Scope} (h : ∀ x ∈ scope.names, x.2 = .free → ∃ c, env.cells.lookup x.1 = some c) :
    ∃ cl, closureFor scope env = pure cl ∧ (∀ y c, cl.lookup y = some c → env.cells.lookup y = some c) ∧ (∀ y, (y, NameKind.free) ∈ scope.names → (cl.lookup y).isSome = true) := by
  let f : Str × NameKind → List (Str × Addr) → Sem (ForInStep (List (Str × Addr))) := fun x cs => if (x.2 == NameKind.free) = true then (do let a ← cellOf env x.1; pure (.yield ((x.1, a) :: cs))) else pure (.yield cs)
  obtain ⟨cl, e, q, z⟩ := closure_in (env := env) f (fun _ _ _ => rfl) scope.names [] h
  have eq : closureFor scope env = (forIn scope.names [] f >>= fun cs => pure cs) := rfl
  refine ⟨cl, ?_, fun y c hy => (q y c hy).elim (fun u => nomatch u) id, fun y hy => z y (.inl hy)⟩
  rw [eq, e]; rfl
theorem relabel_lookup {env : Env} {k : NameKind} (hk : (k == NameKind.free) = false) : ∀ {names : List (Str × NameKind)} {x : Str}, names.lookup x = some k →
    (names.map fun (n, k) => if (k == NameKind.free && env.scope.kind == .function && env.kindOf n == some .cell) then (n, NameKind.cell) else (n, k)).lookup x = some k
  | [], _, h => by simp at h
  | (n, j) :: r, x, h => by
    have ih := @relabel_lookup env k hk r x
    show List.lookup x ((if (j == NameKind.free && env.scope.kind == .function && env.kindOf n == some .cell) = true then (n, NameKind.cell) else (n, j)) :: _) = _
    cases hx : x == n with
    | true =>
      simp only [List.lookup_cons, hx] at h
      cases h
      simp [List.lookup_cons, hx, hk]
    | false =>
      simp only [List.lookup_cons, hx] at h
      by_cases hc : (j == NameKind.free && env.scope.kind == .function && env.kindOf n == some .cell) = true
      · rw [if_pos hc]; simp only [List.lookup_cons, hx]; exact ih h
      · rw [if_neg hc]; simp only [List.lookup_cons, hx]; exact ih h
theorem relabel_free {env : Env} (hf : env.scope.kind = .function) : ∀ {names : List (Str × NameKind)} {x : Str}, env.kindOf x = some .cell → names.lookup x = some .free →
    (names.map fun (n, k) => if (k == NameKind.free && env.scope.kind == .function && env.kindOf n == some .cell) then (n, NameKind.cell) else (n, k)).lookup x = some .cell
  | [], _, _, h => by simp at h
  | (n, j) :: r, x, hx', h => by
    have ih := @relabel_free env hf r x hx'
    show List.lookup x ((if (j == NameKind.free && env.scope.kind == .function && env.kindOf n == some .cell) = true then (n, NameKind.cell) else (n, j)) :: _) = _
    cases hx : x == n with
    | true =>
      simp only [List.lookup_cons, hx] at h
      cases h
      have := beq_iff_eq.mp hx
      subst this
      simp [List.lookup_cons, hf, hx']
    | false =>
      simp only [List.lookup_cons, hx] at h
      by_cases hc : (j == NameKind.free && env.scope.kind == .function && env.kindOf n == some .cell) = true
      · rw [if_pos hc]; simp only [List.lookup_cons, hx]; exact ih h
      · rw [if_neg hc]; simp only [List.lookup_cons, hx]; exact ih h
theorem get_of_at : ∀ {e : E} {k : Nat} {f : Bool} {ov : Option V}, e[k]? = some (f, ov) → e.get k = ov
  | [], _, _, _, q => by simp at q
  | p :: r, 0, _, _, q => by simp at q; subst q; rfl
  | p :: r, k + 1, _, _, q => by
    have := get_of_at (e := r) (k := k) (by simpa using q)
    exact this
theorem Slots.length {env : Env} {h : Heap} {ρ : List Addr} {mm : Str → Option Value} : ∀ {ns : List Str} {e : E}, Slots env h ρ mm ns e → ns.length = e.length
  | _, _, .nil => rfl
  | _, _, .cons _ r => by rw [List.length_cons, List.length_cons, r.length]
theorem Slots.append {env : Env} {h : Heap} {ρ : List Addr} {mm : Str → Option Value} : ∀ {ns ns' : List Str} {e e' : E}, Slots env h ρ mm ns e → Slots env h ρ mm ns' e' → Slots env h ρ mm (ns ++ ns') (e ++ e')
  | _, _, _, _, .nil, r => r
  | _, _, _, _, .cons a q, r => .cons a (q.append r)
theorem Slots.caps {env cenv : Env} {h h' : Heap} {ρ : List Addr} {mm mm' : Str → Option Value} {ns : List Str} {e : E} (s : Slots env h ρ mm ns e) :
    ∀ {caps : List Nat}, (∀ k ∈ caps, k < ns.length ∧ env.kindOf (Mine.nth ns k) = some .cell ∧ cenv.kindOf (Mine.nth ns k) = some .cell ∧ ∀ c u, env.cells.lookup (Mine.nth ns k) = some c → h.IsCell c u → cenv.cells.lookup (Mine.nth ns k) = some c ∧ h'.IsCell c u) →
      Slots cenv h' ρ mm' (caps.map (Mine.nth ns)) (inner e caps)
  | [], _ => .nil
  | k :: caps, hk => by
    refine .cons ?_ (s.caps fun j hj => hk j (List.mem_cons_of_mem _ hj))
    obtain ⟨lt, ek, ck, cc⟩ := hk k List.mem_cons_self
    rw [s.length] at lt
    have at_ : e[k]? = some e[k] := List.getElem?_eq_getElem lt
    obtain ⟨_, _, sl⟩ := s.nth at_
    generalize e[k] = p at at_ sl
    match p, at_, sl with
    | (false, ov), at_, sl => have := sl.1; rw [ek] at this; cases this
    | (true, ov), at_, ⟨_, c, u, al, ac, av⟩ =>
      obtain ⟨l, i⟩ := cc c u al ac
      show Slot cenv h' ρ mm' _ (true, e.get k)
      rw [get_of_at at_]
      exact ⟨ck, c, u, l, i, av⟩

section
variable {P : List FnE} {G : List Str} {r : Rec} {prog : Program} {w : World} {A : Around} {E' : Value → Shared → Prop} {s : Shared} {hb : Heap} {env : Env} {sc : Scope} {ns : List Str} {e : E} {ρ : List Addr} {m m' : M} {d : Nat} {nest : Bool}
theorem fold_src (G ns : List Str) (env : Env) (v : Value) {sk : Sk} {sx : List X} {pf ps : Pos} : foldedSetIterable (srcOf sk (backs G ns sx) pf ps) env v = pure v := by
  cases sk with
  | plain =>
    cases sx with
    | nil => rfl
    | cons x xs =>
      cases xs with
      | nil => exact fold_back G ns env v x
      | cons y ys => rfl
  | range => rfl
  | enum => rfl
  | rev => rfl
theorem comp_sound' (H : RecOk P G r) (am : Amb A d) (M₀ : Mod P G hb) (S : St hb env sc ns e ρ m s.heap) {elt : X} {tg : Tg} {sk : Sk} {sx : List X} {pf ps : Pos} {cond : List X} {sc' : Scope} {ns' : List Str} {caps : List Nat} {pos : Pos} {it : It} {m₁ m₂ : M} {vs : List V} {Q : Value → Shared → Prop}
    (h1 : ∀ (E'' : Value → Shared → Prop) (K : Value → Shared → Prop), Start ρ s it m₁ K → wpAny (model prog w) A (eval (srcOf sk (backs G ns sx) pf ps) env) (fun x s₁ => wpAny (model prog w) A (pyIter x) K E'' s₁) E'' s) (h2 : r.cpr d (List.replicate (ns'.length - caps.length) (false, .none) ++ inner e caps) m₁ tg it cond elt [] = some (vs, m₂))
    (wf : wfX G nest ns sc (.comp elt tg sk sx pf ps cond sc' ns' caps pos) = true) (p : PO ρ s (m₂.new (.list vs)).1 (m₂.new (.list vs)).2 Q) : wpAny (model prog w) A (eval (back G ns (.comp elt tg sk sx pf ps cond sc' ns' caps pos)) env) Q E' s := by
  simp only [wfX, Bool.and_eq_true, Bool.not_eq_true'] at wf
  obtain ⟨⟨⟨⟨⟨⟨_, wg⟩, wne⟩, wx⟩, wc⟩, we⟩, wk⟩ := wf
  simp only [compOk, Bool.and_eq_true, beq_iff_eq, decide_eq_true_eq, List.all_eq_true, Bool.not_eq_true', bne_iff_ne, ne_eq, Bool.or_eq_true] at wc
  obtain ⟨⟨⟨⟨⟨⟨⟨⟨⟨ck, cnc⟩, cl1⟩, cnd⟩, cdb⟩, cle⟩, cdr⟩, ctk⟩, cfr⟩, ccp⟩ := wc
  have lek : caps.length ≤ ns'.length := Nat.le_of_ble_eq_true cle
  have capc : ∀ k ∈ caps, k < ns.length ∧ env.kindOf (nth ns k) = some .cell ∧ sc'.names.lookup (nth ns k) = some .free := fun k hk => by
    have := ccp k hk
    exact ⟨Nat.le_of_ble_eq_true this.1.1, S.env.kc _ this.1.2, this.2⟩
  obtain ⟨mm, hmm, hsl⟩ := S.env.vars
  have cellk : ∀ k ∈ caps, ∃ c u, env.cells.lookup (nth ns k) = some c := fun k hk => by
    obtain ⟨lt, ek, _⟩ := capc k hk
    rw [hsl.length] at lt
    have at_ : e[k]? = some e[k] := List.getElem?_eq_getElem lt
    obtain ⟨_, _, sl⟩ := hsl.nth at_
    generalize e[k] = pr at at_ sl
    match pr, at_, sl with
    | (false, ov), at_, sl => have := sl.1; rw [ek] at this; cases this
    | (true, ov), at_, ⟨_, c, u, al, ac, av⟩ => exact ⟨c, u, al⟩
  have freeIn : ∀ y, (y, NameKind.free) ∈ sc'.names → ∃ k ∈ caps, y = nth ns k := fun y hy => by
    have : y ∈ (sc'.names.filter fun x => x.2 == .free).map (·.1) := List.mem_map.mpr ⟨_, List.mem_filter.mpr ⟨hy, rfl⟩, rfl⟩
    rw [cfr] at this
    obtain ⟨k, hk, e⟩ := List.mem_map.mp this
    exact ⟨k, hk, e.symm⟩
  obtain ⟨cl, hcl, hcl1, hcl2⟩ := closure_ok (env := env) (scope := sc') fun x hx hk => by
    obtain ⟨k, hk', e⟩ := freeIn x.1 (by rw [← hk]; exact hx)
    obtain ⟨c, _, l⟩ := cellk k hk'
    exact ⟨c, e ▸ l⟩
  show wpAny (model prog w) A (eval (.ListComp (back G ns' elt) [⟨tg.back ns', srcOf sk (backs G ns sx) pf ps, backs G ns' cond, 0⟩] sc' pos) env) Q E' s
  rw [eval_ListComp]
  refine wpAny_comprehension_free (cl := cl) rfl (fun v => fold_src G ns env v) hcl ck (fun x hx hl => ((cl1 x hx).resolve_left fun z => z hl)) ?_
  refine h1 _ _ fun ρ₁ h₁ tk₁ its a x₁ s₁ R₁ ha fr => ?_
  have S₁ := S.ext x₁ s₁
  refine wpAny_newObj_type (s := { s with heap := h₁, toks := tk₁ }) ?_ (by show [].toArray.size ≤ sizeLine; rw [sizeLine_eq]; simp)
  refine wpAny_newFunctionEnv (fun x hx => cnc x hx) (fun x hx => nomatch hx) (fun h₄ hns hsb => ?_) ck
  -- the heaps: h₁ (sources), its push (the new list at D), h₄ (the comprehension's names at C)
  generalize hD : h₁.objs.size = D at *
  have hD' : h₁.get? D = none := hD ▸ none_size h₁
  have k2 : ∀ b o, h₁.get? b = some o → (h₁.push { cls := .type "list", data := .seq #[] }).get? b = some o := push_keep h₁ _
  have szC : (h₁.push { cls := .type "list", data := .seq #[] }).objs.size = D + 1 := by rw [Heap.size_push, hD]
  have hCn : ∀ b o, (h₁.push { cls := .type "list", data := .seq #[] }).get? b = some o → b ≠ D + 1 := fun b o q z => by
    have := Heap.lt_size q; rw [szC, z] at this; exact Nat.lt_irrefl _ this
  have k4 : ∀ b o, (h₁.push { cls := .type "list", data := .seq #[] }).get? b = some o → h₄.get? b = some o := fun b o q => by
    have hn := hCn b o q
    refine (hsb.2 b ?_).trans (push_keep _ _ b o q)
    rw [szC]; exact hn
  have k14 : ∀ b o, h₁.get? b = some o → h₄.get? b = some o := fun b o q => k4 b o (k2 b o q)
  have hC1 : ∀ b o, h₁.get? b = some o → b ≠ D + 1 := fun b o q => hCn b o (k2 b o q)
  have hD4 : h₄.get? D = some { cls := .type "list", data := .seq (List.toArray []) 0 } := k4 _ _ (by rw [← hD]; exact Heap.get?_push_size _ rfl)
  have lv : ∀ b, (∃ o, h₁.get? b = some o) → b ≠ D ∧ b ≠ D + 1 := fun b ⟨o, q⟩ => ⟨(fun z => by rw [z, hD'] at q; cases q), hC1 b o q⟩
  have hbD : ∀ b, h₁.get? b = none → hb.get? b = none := fun b q => by
    cases z : hb.get? b with
    | none => rfl
    | some o => rw [S₁.base.keep b o z] at q; cases q
  have hC1n : h₁.get? (D + 1) = none := by
    cases z : h₁.get? (D + 1) with
    | none => rfl
    | some o => exact absurd rfl (hC1 _ _ z)
  rw [szC] at hns
  have Sc : St hb (compEnvC sc' cl (D + 1) env) sc' ns' (List.replicate (ns'.length - caps.length) (false, .none) ++ inner e caps) ρ₁ m₁ h₄ := by
    refine ⟨s₁.keep fun b o _ => k14 b o, S₁.base.ext (.of_keep k14), fun b q => ?_, ⟨ck, S.env.gl, S.env.bi, fun x hx => relabel_lookup rfl hx, fun x hx => ?_, cdb, cnd, fun q => ?_, fun y c l => ?_, fun y z c l l' => S.env.apart y z c (hcl1 y c l) (hcl1 z c l'), fun x => none, hns, ?_⟩⟩
    · rcases q with rfl | ⟨y, q⟩
      · exact hbD _ hC1n
      · exact S.own b (.inr ⟨y, hcl1 y b q⟩)
    · exact absurd (mem_of_lookup hx) fun z => cnc _ z rfl
    · exact (lv _ (s₁.live _ q)).2 rfl
    · obtain ⟨q, n, u, oc, hoc, hd⟩ := S₁.env.cel y c (hcl1 y c l)
      exact ⟨q, hC1 c oc hoc, u, oc, k14 c oc hoc, hd⟩
    · have e1 : ns' = ns'.take (ns'.length - caps.length) ++ caps.map (nth ns) := by rw [← cdr, List.take_append_drop]
      have own : ∀ (l : List Str) (n : Nat), l.length = n → (∀ x ∈ l, sc'.names.lookup x = some .local) → Slots (compEnvC sc' cl (D + 1) env) h₄ ρ₁ (fun _ => none) l (List.replicate n (false, .none)) := by
        intro l
        induction l with
        | nil => intro n e _; subst e; exact .nil
        | cons x l ih =>
          intro n e hl
          subst e
          rw [List.length_cons, List.replicate_succ]
          exact .cons ⟨relabel_lookup rfl (hl x List.mem_cons_self), fun v q => nomatch q⟩ (ih _ rfl fun y hy => hl y (List.mem_cons_of_mem _ hy))
      obtain ⟨mm₁, hmm₁, hsl₁⟩ := S₁.env.vars
      have sl := (own (ns'.take (ns'.length - caps.length)) (ns'.length - caps.length) (by rw [List.length_take]; omega) fun x hx => ctk x hx).append (hsl₁.caps (cenv := compEnvC sc' cl (D + 1) env) (h' := h₄) (mm' := fun _ => none) (caps := caps) fun k hk => by
        obtain ⟨lt, ek, fk⟩ := capc k hk
        refine ⟨lt, ek, relabel_free S.env.fn ek fk, fun c u l ⟨oc, hoc, hd⟩ => ⟨?_, oc, k14 c oc hoc, hd⟩⟩
        obtain ⟨c', l'⟩ := Option.isSome_iff_exists.mp (hcl2 _ (mem_of_lookup fk))
        have := hcl1 _ _ l'
        rw [l] at this; cases this
        exact l')
      rw [← e1] at sl
      exact sl
  have nearD : ¬ Near (compEnvC sc' cl (D + 1) env) D := fun q => by
    rcases q with q | ⟨y, q⟩
    · exact absurd q (Nat.ne_of_lt (Nat.lt_succ_self D))
    · obtain ⟨_, _, u, oc, hoc, _⟩ := S₁.env.cel y D (hcl1 y D q)
      rw [hD'] at hoc; cases hoc
  have itsl := R₁.live
  have offC : Off (compEnvC sc' cl (D + 1) env) ρ₁ its := fun b q => ⟨(fr b q).1, fun z => by
    rcases z with z | ⟨y, z⟩
    · exact (lv b (itsl b q)).2 z
    · obtain ⟨_, _, u, oc, hoc, _⟩ := S.env.cel y b (hcl1 y b z)
      rw [(fr b q).2] at hoc; cases hoc⟩
  have hits : ∀ b ∈ its, hb.get? b = none := fun b q => by
    cases z : hb.get? b with
    | none => rfl
    | some o => have := S.base.keep b o z; rw [(fr b q).2] at this; cases this
  have Rc : ItR h₄ ρ₁ it its := by
    have := R₁.keep (ν := []) (h' := h₄) fun b q o z => k14 b o z
    rwa [List.append_nil] at this
  have loop : codeAny (model prog w) A (.compLoop (.ListComp (back G ns' elt) [⟨tg.back ns', srcOf sk (backs G ns sx) pf ps, backs G ns' cond, 0⟩] sc' pos) 0 (.ref a) (.ref D) (compEnvC sc' cl (D + 1) env))
      (compPost (model prog w) A E' none Q (.ref D) (D + 1)) { s with heap := h₄, toks := tk₁ } := by
    refine H.cpr _ _ _ _ _ _ _ _ _ _ h2 _ _ _ { s with heap := h₄, toks := tk₁ } _ _ _ _ _ _ _ _ [] 0 _ _ _ _ am M₀ Sc we wk Rc offC hits ha rfl hD4 .nil (fun q => (lv _ (s₁.live _ q)).1 rfl) (fun q => (lv _ (itsl _ q)).1 rfl) nearD (hbD _ hD') fun ρ₂ h₅ tk₂ ws' n' e' x₂ S₂ hD5 v₂ nD => ?_
    obtain ⟨mm₂, hns₂, _⟩ := S₂.env.vars
    refine ⟨mm₂, hns₂, fun h₆ hs₆ => ?_⟩
    have neC : ∀ b, b ∈ ρ₂ → b ≠ D + 1 := fun b q z => S₂.env.loc (z ▸ q)
    have s₆ : Sto h₆ ρ₂ m₂ := S₂.sto.keep fun b o q z => (hs₆.2 b (neC b q)).trans z
    have hD6 : h₆.get? D = some { cls := .type "list", data := .seq (List.toArray ws') n' } := (hs₆.2 D (Nat.ne_of_lt (Nat.lt_succ_self D))).trans hD5
    refine p (ρ₂ ++ [D]) h₆ tk₂ (.ref D) ?_ (s₆.add nD ⟨ws', n', hD6, v₂⟩) (VR.new s₆ _)
    obtain ⟨ν₁, rfl, hν₁⟩ := x₁.pre
    obtain ⟨ν₂, rfl, hν₂⟩ := x₂.pre
    have l1 := x₁.sub s₁
    have n4 : ∀ b, h₄.get? b = none → s.heap.get? b = none := fun b q => by
      refine x₁.back l1 ?_
      cases z : h₁.get? b with
      | none => rfl
      | some o => rw [k14 b o z] at q; cases q
    refine ⟨⟨ν₁ ++ ν₂ ++ [D], by simp [List.append_assoc], fun b q => ?_⟩, fun b o q nb => ?_⟩
    · rcases List.mem_append.mp q with q | q
      · rcases List.mem_append.mp q with q | q
        · exact hν₁ b q
        · exact n4 b (hν₂ b q)
      · rw [List.mem_singleton.mp q]; exact x₁.back l1 hD'
    · have q1 := x₁.keep b o q nb
      have nb1 : b ∉ ρ ++ ν₁ := fun z => by
        rcases List.mem_append.mp z with z | z
        · exact nb z
        · rw [hν₁ b z] at q; cases q
      have nC := hC1 b o q1
      refine (hs₆.2 b nC).trans (x₂.keep b o (k14 b o q1) nb1 (fun z => ?_) fun z => ?_)
      · rcases z with z | ⟨z, _⟩
        · exact nC z
        · cases z
      · rcases List.mem_cons.mp z with z | z
        · rw [z, hD'] at q1; cases q1
        · rw [(fr b z).2] at q; cases q
  have fin : codeAny (model prog w) A (.compStart (.ListComp (back G ns' elt) [⟨tg.back ns', srcOf sk (backs G ns sx) pf ps, backs G ns' cond, 0⟩] sc' pos) 0 (.ref a) (.ref D) (compEnvC sc' cl (D + 1) env))
      (compPost (model prog w) A E' none Q (.ref D) (D + 1)) { s with heap := h₄, toks := tk₁ } := codeAny_compStart_list loop (reiter (s := { s with heap := h₄, toks := tk₁ }) Rc ha loop)
  show codeAny _ _ (.compStart _ 0 (.ref a) (.ref D) { newEnv sc' (h₁.push _).objs.size env.globals cl env.qual none .none (some env) builtinsNs with scope := relabel sc' env }) _ _
  rw [szC]
  exact fin
theorem comp_sound (H : RecOk P G r) (am : Amb A d) (M₀ : Mod P G hb) (S : St hb env sc ns e ρ m s.heap) {elt : X} {tg : Tg} {sk : Sk} {sx : List X} {pf ps : Pos} {cond : List X} {sc' : Scope} {ns' : List Str} {caps : List Nat} {pos : Pos} {it : It} {m₁ m₂ : M} {vs : List V} {Q : Value → Shared → Prop}
    (h1 : start r d e m sk sx = some (it, m₁)) (h2 : r.cpr d (List.replicate (ns'.length - caps.length) (false, .none) ++ inner e caps) m₁ tg it cond elt [] = some (vs, m₂))
    (wf : wfX G nest ns sc (.comp elt tg sk sx pf ps cond sc' ns' caps pos) = true) (p : PO ρ s (m₂.new (.list vs)).1 (m₂.new (.list vs)).2 Q) : wpAny (model prog w) A (eval (back G ns (.comp elt tg sk sx pf ps cond sc' ns' caps pos)) env) Q E' s := by
  have wf' := wf
  simp only [wfX, Bool.and_eq_true, Bool.not_eq_true'] at wf
  obtain ⟨⟨⟨⟨⟨⟨_, wg⟩, wne⟩, wx⟩, wc⟩, we⟩, wk⟩ := wf
  exact comp_sound' H am M₀ S (fun E'' K p => start_sound (E' := E'') H am M₀ S h1 wg wne wx p) h2 wf' p
end
end Mine

namespace Mine
open PySem PySem.W PyProof.Rows

section
variable {P : List FnE} {G : List Str} {r : Rec}
theorem two_sound (H : RecOk P G r) {d : Nat} {e : E} {m m₁ m₂ : M} {l y : X} {u v : V} (h1 : r.ev d e m l = some (u, m₁)) (h2 : r.ev d e m₁ y = some (v, m₂))
    {prog : Program} {w : World} {A : Around} {E' : Value → Shared → Prop} {s : Shared} {hb : Heap} {env : Env} {sc : Scope} {ns : List Str} {ρ : List Addr} {nest : Bool} {K : Value → Value → Shared → Prop}
    (am : Amb A d) (M₀ : Mod P G hb) (S : St hb env sc ns e ρ m s.heap) (wl : wfX G nest ns sc l = true) (wy : wfX G nest ns sc y = true)
    (p : ∀ ρ' h' tk a b, Ext ρ s.heap ρ' h' → Sto h' ρ' m₂ → VR ρ' u a → VR ρ' v b → K a b { s with heap := h', toks := tk }) :
    wpAny (model prog w) A (eval (back G ns l) env) (fun a s₁ => wpAny (model prog w) A (eval (back G ns y) env) (fun b s₂ => K a b s₂) E' s₁) E' s := by
  refine H.ev _ _ _ _ _ _ h1 _ _ _ _ _ _ _ _ _ _ _ _ am M₀ S wl fun ρ₁ h₁ tk₁ a x₁ s₁ v₁ => ?_
  refine H.ev _ _ _ _ _ _ h2 _ _ _ _ { s with heap := h₁, toks := tk₁ } _ _ _ _ _ _ _ am M₀ (S.ext x₁ s₁) wy fun ρ₂ h₂ tk₂ b x₂ s₂ v₂ => ?_
  exact p ρ₂ h₂ tk₂ a b (x₁.trans (x₁.sub s₁) x₂) s₂ (x₂.vr v₁) v₂
theorem PO.next {ρ ρ₁ : List Addr} {s : Shared} {h₁ : Heap} {tk₁ : Nat} {v : V} {m₁ m' : M} {Q : Value → Shared → Prop} (p : PO ρ s v m' Q) (x : Ext ρ s.heap ρ₁ h₁) (S : Sto h₁ ρ₁ m₁) : PO ρ₁ { s with heap := h₁, toks := tk₁ } v m' Q :=
  fun ρ' h' tk y x' s' v' => p ρ' h' tk y (x.trans (x.sub S) x') s' v'
theorem amu {A : Around} {d : Nat} (a : Amb A d) : A.units + 64 < cLine := by have := a.un; omega

theorem ev_step (H : RecOk P G r) : ∀ d e m x v m', evStep P r d e m x = some (v, m') → EvOk P G d e m x v m' := by
  intro d e m x v m' h prog w A E' s hb env sc ns ρ nest Q am M₀ S wf p
  unfold evStep at h
  cases x with
  | var k q =>
    simp only at h
    split at h
    · rename_i u eu
      cases h
      exact load_sound S eu fun y hy => p.here S.sto hy
    · cases h
  | int i c q => cases h; exact wpAny_Constant_int (p.same S.sto ⟨_, rfl⟩ _)
  | none c q => cases h; exact wpAny_pure (p.here S.sto rfl)
  | bool b c q => cases h; exact wpAny_pure (p.here S.sto rfl)
  | bin op l y q =>
    simp only [wfX, Bool.and_eq_true] at wf
    simp only at h
    split at h
    · rename_i u m₁ h1
      split at h
      · rename_i u' m₂ h2
        show wpAny _ A (eval (.BinOp (back G ns l) op.back (back G ns y) q) env) Q E' s
        refine wpAny_BinOp (two_sound H h1 h2 (K := fun a b s₂ => wpAny (model prog w) A (binaryOp op.back a b) Q E' s₂) am M₀ S wf.1 wf.2 fun ρ₁ h₁ tk₁ a b x₁ s₁ v₁ v₂ => ?_)
        exact binV_sound (s := { s with heap := h₁, toks := tk₁ }) h s₁ v₁ v₂ (p.next x₁ s₁)
      · cases h
    · cases h
  | neg y q =>
    simp only [wfX] at wf
    simp only at h
    split at h
    · rename_i i m₁ h1
      cases h
      show wpAny _ A (eval (.UnaryOp .USub (back G ns y) q) env) Q E' s
      refine wpAny_UnaryOp (H.ev _ _ _ _ _ _ h1 _ _ _ _ _ _ _ _ _ _ _ _ am M₀ S wf fun ρ₁ h₁ tk₁ a x₁ s₁ v₁ => ?_)
      obtain ⟨t, rfl⟩ := v₁
      exact PyProof.Rows.neg_int (s := { s with heap := h₁, toks := tk₁ }) ((p.next (tk₁ := tk₁) x₁ s₁).same s₁ ⟨_, rfl⟩ _)
    · cases h
  | cmp op l y q =>
    simp only [wfX, Bool.and_eq_true] at wf
    simp only at h
    split at h
    · rename_i u m₁ h1
      split at h
      · rename_i u' m₂ h2
        split at h
        · rename_i c hc
          cases h
          show wpAny _ A (eval (.Compare (back G ns l) [op.back] [back G ns y] q) env) Q E' s
          refine wpAny_Compare1 (two_sound H h1 h2 (K := fun a b s₂ => wpAny (model prog w) A (compareOp op.back a b) Q E' s₂) am M₀ S wf.1 wf.2 fun ρ₁ h₁ tk₁ a b x₁ s₁ v₁ v₂ => ?_) (marks_back G ns _ y)
          exact cmpV_sound (s := { s with heap := h₁, toks := tk₁ }) hc s₁ v₁ v₂ (amu am) ((p.next (tk₁ := tk₁) x₁ s₁).here s₁ rfl)
        · cases h
      · cases h
    · cases h
  | ite t a b q =>
    simp only [wfX, Bool.and_eq_true] at wf
    simp only at h
    show wpAny _ A (eval (.IfExp (back G ns t) (back G ns a) (back G ns b) q) env) Q E' s
    split at h
    · rename_i m₁ h1
      refine wpAny_IfExp (H.tst _ _ _ _ _ _ h1 _ _ _ _ _ _ _ _ _ _ _ _ am M₀ S wf.1.1 fun ρ₁ h₁ tk₁ x₁ s₁ => ?_)
      rw [if_pos rfl]
      exact H.ev _ _ _ _ _ _ h _ _ _ _ { s with heap := h₁, toks := tk₁ } _ _ _ _ _ _ _ am M₀ (S.ext x₁ s₁) wf.1.2 (p.next x₁ s₁)
    · rename_i m₁ h1
      refine wpAny_IfExp (H.tst _ _ _ _ _ _ h1 _ _ _ _ _ _ _ _ _ _ _ _ am M₀ S wf.1.1 fun ρ₁ h₁ tk₁ x₁ s₁ => ?_)
      rw [if_neg Bool.false_ne_true]
      exact H.ev _ _ _ _ _ _ h _ _ _ _ { s with heap := h₁, toks := tk₁ } _ _ _ _ _ _ _ am M₀ (S.ext x₁ s₁) wf.2 (p.next x₁ s₁)
    · cases h
  | and l y q =>
    simp only [wfX, Bool.and_eq_true] at wf
    simp only at h
    show wpAny _ A (eval (.BoolOp .And [back G ns l, back G ns y] q) env) Q E' s
    split at h
    · rename_i m₁ h1
      refine wpAny_And2 (H.ev _ _ _ _ _ _ h1 _ _ _ _ _ _ _ _ _ _ _ _ am M₀ S wf.1 fun ρ₁ h₁ tk₁ a x₁ s₁ v₁ => ?_)
      cases v₁
      refine wpAny_truthy_bool ?_
      rw [if_pos rfl]
      exact H.ev _ _ _ _ _ _ h _ _ _ _ { s with heap := h₁, toks := tk₁ } _ _ _ _ _ _ _ am M₀ (S.ext x₁ s₁) wf.2 (p.next x₁ s₁)
    · rename_i m₁ h1
      cases h
      refine wpAny_And2 (H.ev _ _ _ _ _ _ h1 _ _ _ _ _ _ _ _ _ _ _ _ am M₀ S wf.1 fun ρ₁ h₁ tk₁ a x₁ s₁ v₁ => ?_)
      cases v₁
      refine wpAny_truthy_bool ?_
      rw [if_neg Bool.false_ne_true]
      exact (p.next (tk₁ := tk₁) x₁ s₁).here s₁ rfl
    · cases h
  | or l y q =>
    simp only [wfX, Bool.and_eq_true] at wf
    simp only at h
    show wpAny _ A (eval (.BoolOp .Or [back G ns l, back G ns y] q) env) Q E' s
    split at h
    · rename_i m₁ h1
      refine wpAny_Or2 (H.ev _ _ _ _ _ _ h1 _ _ _ _ _ _ _ _ _ _ _ _ am M₀ S wf.1 fun ρ₁ h₁ tk₁ a x₁ s₁ v₁ => ?_)
      cases v₁
      refine wpAny_truthy_bool ?_
      rw [if_neg Bool.false_ne_true]
      exact H.ev _ _ _ _ _ _ h _ _ _ _ { s with heap := h₁, toks := tk₁ } _ _ _ _ _ _ _ am M₀ (S.ext x₁ s₁) wf.2 (p.next x₁ s₁)
    · rename_i m₁ h1
      cases h
      refine wpAny_Or2 (H.ev _ _ _ _ _ _ h1 _ _ _ _ _ _ _ _ _ _ _ _ am M₀ S wf.1 fun ρ₁ h₁ tk₁ a x₁ s₁ v₁ => ?_)
      cases v₁
      refine wpAny_truthy_bool ?_
      rw [if_pos rfl]
      exact (p.next (tk₁ := tk₁) x₁ s₁).here s₁ rfl
    · cases h
  | call f as pf q =>
    simp only [wfX] at wf
    simp only at h
    split at h
    · cases h
    · rename_i d
      split at h
      · rename_i fe hf
        split at h
        · rename_i vs m₁ h1
          split at h
          · rename_i hl
            split at h
            · rename_i u e' m₂ h2
              cases h
              exact call_sound H am M₀ S hf h1 (Nat.eq_of_beq_eq_true hl) h2 rfl wf p
            · rename_i e' m₂ h2
              cases h
              exact call_sound H am M₀ S hf h1 (Nat.eq_of_beq_eq_true hl) h2 rfl wf p
            · cases h
          · cases h
        · cases h
      · cases h
  | bi b as pf q =>
    simp only [wfX, Bool.and_eq_true, Bool.not_eq_true'] at wf
    simp only at h
    split at h
    · rename_i vs m₁ h1
      obtain ⟨mg, mb, hg, hbn, fns, bis, hr, he, hv⟩ := M₀.names
      refine call_name (f := b.val) H am M₀ S wf.1.1 hg hbn (bis b).1 (bis b).2 (by cases b <;> first | exact .inl ⟨_, rfl⟩ | exact .inr ⟨_, rfl⟩) wf.1.2 h1 wf.2 fun ρ₁ h₁ tk₁ ws x₁ s₁ v₁ => ?_
      exact biV_sound (s := { s with heap := h₁, toks := tk₁ }) h s₁ v₁ am.hh (p.next x₁ s₁)
    · cases h
  | sub o i q =>
    simp only [wfX, Bool.and_eq_true] at wf
    simp only at h
    split at h
    · rename_i u m₁ h1
      split at h
      · rename_i u' m₂ h2
        split at h
        · rename_i z hz
          cases h
          show wpAny _ A (eval (.Subscript (back G ns o) (back G ns i) q) env) Q E' s
          refine Subscript_ (two_sound H h1 h2 (K := fun a b s₂ => wpAny (model prog w) A (subscriptTail (back G ns o) (back G ns i) a b) Q E' s₂) am M₀ S wf.1 wf.2 fun ρ₁ h₁ tk₁ a b x₁ s₁ v₁ v₂ => ?_)
          exact subV_sound (s := { s with heap := h₁, toks := tk₁ }) hz s₁ v₁ v₂ (fun o' i' => subs_back G ns o' i' i) (p.next x₁ s₁)
        · cases h
      · cases h
    · cases h
  | upto o i ps q =>
    simp only [wfX, Bool.and_eq_true] at wf
    simp only at h
    split at h
    · rename_i u m₁ h1
      split at h
      · rename_i u' m₂ h2
        unfold uptoV at h
        split at h
        · rename_i k
          split at h
          · rename_i j
            split at h
            · split at h
              · rename_i xs ek
                split at h
                · rename_i hf
                  cases h
                  show wpAny _ A (eval (.Subscript (back G ns o) (.Slice .none (some (back G ns i)) .none ps) q) env) Q E' s
                  refine Subscript_ (H.ev _ _ _ _ _ _ h1 _ _ _ _ _ _ _ _ _ _ _ _ am M₀ S wf.1 fun ρ₁ h₁ tk₁ a x₁ s₁ v₁ => wpAny_Slice (wpAny_pure (H.ev _ _ _ _ _ _ h2 _ _ _ _ { s with heap := h₁, toks := tk₁ } _ _ _ _ _ _ _ am M₀ (S.ext x₁ s₁) wf.2 fun ρ₂ h₂ tk₂ b x₂ s₂ v₂ => wpAny_pure ?_)))
                  obtain ⟨l, ws, n, rfl, el, hl, hr⟩ := Sto.list (s := { s with heap := h₂, toks := tk₂ }) s₂ ek (x₂.vr v₁)
                  obtain ⟨t, rfl⟩ := v₂
                  have hl' := push_keep h₂ { cls := .type "slice", data := .fields #[Value.none, .int (Int.ofNat j) t, .none] } _ _ hl
                  refine tail_any (s := { s with heap := h₂.push { cls := .type "slice", data := .fields #[Value.none, .int (Int.ofNat j) t, .none] }, toks := tk₂ }) (T := "list") ⟨_, hl', rfl⟩ slot_list_getitem.lookup ?_ rfl
                  have z := few_le hf
                  rw [hr.length] at z
                  refine wpAny_getItem_list_slice (isList_of hl') (Heap.IsSliceOf.new ..) .none (.int _ t) .none (by simp) ?_ (by simp only [List.size_toArray]; rw [sizeLine_eq]; omega)
                  rw [show (some (Int.ofNat j) : Option Int) = some ((j : Nat) : Int) from rfl, slicePick_upto']
                  have kp := push_keep h₂ { cls := .type "slice", data := .fields #[Value.none, .int (Int.ofNat j) t, .none] }
                  exact ((p.next x₁ s₁).next (tk₁ := tk₂) x₂ s₂).list (s := { s with heap := h₂, toks := tk₂ }) s₂ (hr.take j) (n := 0) (by
                    cases y : h₂.get? (h₂.push { cls := .type "slice", data := .fields #[Value.none, .int (Int.ofNat j) t, .none] }).objs.size with
                    | none => rfl
                    | some o => have := Heap.lt_size y; rw [Heap.size_push] at this; exact absurd this (Nat.not_lt.mpr (Nat.le_succ _)))
                    (fun b o y => push_keep _ _ b o (kp b o y)) (Heap.get?_push_size _ rfl)
                · cases h
              · cases h
            · cases h
          · cases h
        · cases h
      · cases h
    · cases h
  | from_ o i ps q =>
    simp only [wfX, Bool.and_eq_true] at wf
    simp only at h
    split at h
    · rename_i u m₁ h1
      split at h
      · rename_i u' m₂ h2
        unfold fromV at h
        split at h
        · rename_i k
          split at h
          · rename_i j
            split at h
            · split at h
              · rename_i xs ek
                split at h
                · rename_i hf
                  cases h
                  show wpAny _ A (eval (.Subscript (back G ns o) (.Slice (some (back G ns i)) .none .none ps) q) env) Q E' s
                  refine Subscript_ (H.ev _ _ _ _ _ _ h1 _ _ _ _ _ _ _ _ _ _ _ _ am M₀ S wf.1 fun ρ₁ h₁ tk₁ a x₁ s₁ v₁ => wpAny_Slice (H.ev _ _ _ _ _ _ h2 _ _ _ _ { s with heap := h₁, toks := tk₁ } _ _ _ _ _ _ _ am M₀ (S.ext x₁ s₁) wf.2 fun ρ₂ h₂ tk₂ b x₂ s₂ v₂ => wpAny_pure (wpAny_pure ?_)))
                  obtain ⟨l, ws, n, rfl, el, hl, hr⟩ := Sto.list (s := { s with heap := h₂, toks := tk₂ }) s₂ ek (x₂.vr v₁)
                  obtain ⟨t, rfl⟩ := v₂
                  have hl' := push_keep h₂ { cls := .type "slice", data := .fields #[.int (Int.ofNat j) t, Value.none, .none] } _ _ hl
                  refine tail_any (s := { s with heap := h₂.push { cls := .type "slice", data := .fields #[.int (Int.ofNat j) t, Value.none, .none] }, toks := tk₂ }) (T := "list") ⟨_, hl', rfl⟩ slot_list_getitem.lookup ?_ rfl
                  have z := few_le hf
                  rw [hr.length] at z
                  refine wpAny_getItem_list_slice (isList_of hl') (Heap.IsSliceOf.new ..) (.int _ t) .none .none (by simp) ?_ (by simp only [List.size_toArray]; rw [sizeLine_eq]; omega)
                  rw [show (some (Int.ofNat j) : Option Int) = some ((j : Nat) : Int) from rfl, slicePick_from']
                  have kp := push_keep h₂ { cls := .type "slice", data := .fields #[.int (Int.ofNat j) t, Value.none, .none] }
                  exact ((p.next x₁ s₁).next (tk₁ := tk₂) x₂ s₂).list (s := { s with heap := h₂, toks := tk₂ }) s₂ (hr.drop j) (n := 0) (by
                    cases y : h₂.get? (h₂.push { cls := .type "slice", data := .fields #[.int (Int.ofNat j) t, Value.none, .none] }).objs.size with
                    | none => rfl
                    | some o => have := Heap.lt_size y; rw [Heap.size_push] at this; exact absurd this (Nat.not_lt.mpr (Nat.le_succ _)))
                    (fun b o y => push_keep _ _ b o (kp b o y)) (Heap.get?_push_size _ rfl)
                · cases h
              · cases h
            · cases h
          · cases h
        · cases h
      · cases h
    · cases h
  | list es q =>
    simp only [wfX] at wf
    simp only at h
    split at h
    · rename_i vs m₁ h1
      split at h
      · rename_i hf
        cases h
        show wpAny _ A (eval (.List (backs G ns es) q) env) Q E' s
        refine List_ (evs_sound H am M₀ h1 S wf fun ρ₁ h₁ tk₁ ws x₁ s₁ v₁ => ?_)
        have z := few_le hf
        rw [v₁.length] at z
        exact wpAny_newObj_type (s := { s with heap := h₁, toks := tk₁ }) ((p.next (tk₁ := tk₁) x₁ s₁).list (s := { s with heap := h₁, toks := tk₁ }) s₁ v₁ (none_size h₁) (push_keep h₁ _) (Heap.get?_push_size _ rfl)) (by show ws.toArray.size ≤ sizeLine; simp only [List.size_toArray]; rw [sizeLine_eq]; omega)
      · cases h
    · cases h
  | tup es c q =>
    simp only [wfX] at wf
    simp only at h
    split at h
    · rename_i vs m₁ h1
      split at h
      · rename_i hf
        cases h
        show wpAny _ A (eval (.Tuple (backs G ns es) c q) env) Q E' s
        refine Tuple_ (evs_sound H am M₀ h1 S wf fun ρ₁ h₁ tk₁ ws x₁ s₁ v₁ => ?_)
        have z := few_le hf
        rw [v₁.length] at z
        exact wpAny_newObj_type (s := { s with heap := h₁, toks := tk₁ }) ((p.next (tk₁ := tk₁) x₁ s₁).tup (s := { s with heap := h₁, toks := tk₁ }) s₁ v₁ (none_size h₁) (push_keep h₁ _) (Heap.get?_push_size _ rfl)) (by show ws.toArray.size ≤ sizeLine; simp only [List.size_toArray]; rw [sizeLine_eq]; omega)
      · cases h
    · cases h
  | comp elt tg sk sx pf ps cond sc' ns' caps pos =>
    simp only at h
    split at h
    · rename_i it m₁ h1
      split at h
      · rename_i vs m₂ h2
        cases h
        exact comp_sound H am M₀ S h1 h2 wf p
      · cases h
    · cases h
  | bad => cases h

theorem PB.next {ρ ρ₁ : List Addr} {s : Shared} {h₁ : Heap} {tk₁ : Nat} {v : Bool} {m₁ m' : M} {Q : Bool → Shared → Prop} (p : PB ρ s v m' Q) (x : Ext ρ s.heap ρ₁ h₁) (S : Sto h₁ ρ₁ m₁) : PB ρ₁ { s with heap := h₁, toks := tk₁ } v m' Q :=
  fun ρ' h' tk x' s' => p ρ' h' tk (x.trans (x.sub S) x') s'
theorem tst_step (H : RecOk P G r) : ∀ d e m x b m', tstStep r d e m x = some (b, m') → TsOk P G d e m x b m' := by
  intro d e m x b m' h prog w A E' s hb env sc ns ρ nest Q am M₀ S wf p
  unfold tstStep at h
  cases x with
  | cmp op l y q =>
    simp only [wfX, Bool.and_eq_true] at wf
    simp only at h
    split at h
    · rename_i u m₁ h1
      split at h
      · rename_i u' m₂ h2
        split at h
        · rename_i c hc
          cases h
          show wpAny _ A (isTrue (.Compare (back G ns l) [op.back] [back G ns y] q) env _) Q E' s
          refine wpAny_isTrue_Compare1 (two_sound H h1 h2 (K := fun a b s₂ => wpAny (model prog w) A (compareOp op.back a b) (fun c s₃ => wpAny (model prog w) A (truthy c) Q E' s₃) E' s₂) am M₀ S wf.1 wf.2 fun ρ₁ h₁ tk₁ a b x₁ s₁ v₁ v₂ => ?_) (marks_back G ns _ y)
          exact cmpV_sound (s := { s with heap := h₁, toks := tk₁ }) hc s₁ v₁ v₂ (amu am) (wpAny_truthy_bool (p ρ₁ h₁ tk₁ x₁ s₁))
        · cases h
      · cases h
    · cases h
  | and l y q =>
    simp only [wfX, Bool.and_eq_true] at wf
    simp only at h
    have ee : isTrue (back G ns (.and l y q)) env (eval (back G ns (.and l y q)) env) = (isTrue (back G ns l) env (eval (back G ns l) env) >>= fun b => match BoolOp.And, b with
      | .And, false => pure false
      | .Or, true => pure true
      | _, _ => (isTrue (back G ns y) env (eval (back G ns y) env) >>= fun b => match BoolOp.And, b with
        | .And, false => pure false
        | .Or, true => pure true
        | _, _ => allTrue .And [] env)) := rfl
    rw [ee]
    split at h
    · rename_i m₁ h1
      refine wpAny_bind (H.tst _ _ _ _ _ _ h1 _ _ _ _ _ _ _ _ _ _ _ _ am M₀ S wf.1 fun ρ₁ h₁ tk₁ x₁ s₁ => ?_)
      refine wpAny_bind (H.tst _ _ _ _ _ _ h _ _ _ _ { s with heap := h₁, toks := tk₁ } _ _ _ _ _ _ _ am M₀ (S.ext x₁ s₁) wf.2 fun ρ₂ h₂ tk₂ x₂ s₂ => ?_)
      cases b with
      | true => exact wpAny_pure (p.next (tk₁ := tk₁) x₁ s₁ ρ₂ h₂ tk₂ x₂ s₂)
      | false => exact wpAny_pure (p.next (tk₁ := tk₁) x₁ s₁ ρ₂ h₂ tk₂ x₂ s₂)
    · rename_i m₁ h1
      cases h
      exact wpAny_bind (H.tst _ _ _ _ _ _ h1 _ _ _ _ _ _ _ _ _ _ _ _ am M₀ S wf.1 fun ρ₁ h₁ tk₁ x₁ s₁ => wpAny_pure (p ρ₁ h₁ tk₁ x₁ s₁))
    · cases h
  | or l y q =>
    simp only [wfX, Bool.and_eq_true] at wf
    simp only at h
    have ee : isTrue (back G ns (.or l y q)) env (eval (back G ns (.or l y q)) env) = (isTrue (back G ns l) env (eval (back G ns l) env) >>= fun b => match BoolOp.Or, b with
      | .And, false => pure false
      | .Or, true => pure true
      | _, _ => (isTrue (back G ns y) env (eval (back G ns y) env) >>= fun b => match BoolOp.Or, b with
        | .And, false => pure false
        | .Or, true => pure true
        | _, _ => allTrue .Or [] env)) := rfl
    rw [ee]
    split at h
    · rename_i m₁ h1
      refine wpAny_bind (H.tst _ _ _ _ _ _ h1 _ _ _ _ _ _ _ _ _ _ _ _ am M₀ S wf.1 fun ρ₁ h₁ tk₁ x₁ s₁ => ?_)
      refine wpAny_bind (H.tst _ _ _ _ _ _ h _ _ _ _ { s with heap := h₁, toks := tk₁ } _ _ _ _ _ _ _ am M₀ (S.ext x₁ s₁) wf.2 fun ρ₂ h₂ tk₂ x₂ s₂ => ?_)
      cases b with
      | true => exact wpAny_pure (p.next (tk₁ := tk₁) x₁ s₁ ρ₂ h₂ tk₂ x₂ s₂)
      | false => exact wpAny_pure (p.next (tk₁ := tk₁) x₁ s₁ ρ₂ h₂ tk₂ x₂ s₂)
    · rename_i m₁ h1
      cases h
      exact wpAny_bind (H.tst _ _ _ _ _ _ h1 _ _ _ _ _ _ _ _ _ _ _ _ am M₀ S wf.1 fun ρ₁ h₁ tk₁ x₁ s₁ => wpAny_pure (p ρ₁ h₁ tk₁ x₁ s₁))
    · cases h
  | _ => cases h
end
end Mine

namespace Mine
open PySem PySem.W PyProof.Rows

theorem setItem_plain {prog : Program} {w : World} {A : Around} {E' : Value → Shared → Prop} {s : Shared} {l : Addr} {items : Array Value} {n j : Nat} {t : Tok} {v : Value} {Q : Unit → Shared → Prop} (ho : s.heap.get? l = some { cls := .type "list", data := .seq items n })
    (hfit : (j : Int) < 2 ^ 63) (hj : j < items.size)
    (hQ : ∀ h' n', h'.get? l = some { cls := .type "list", data := .seq (items.setIfInBounds j v) n' } → Heap.SameBut l s.heap h' → Q () { s with heap := h' }) :
    wpAny (model prog w) A (setItem (.ref l) (.int j t) v) Q E' s := by
  have e : ∃ n', Obj.mapSeq (·.setIfInBounds j v) { cls := .type "list", data := .seq items n } = { cls := .type "list", data := .seq (items.setIfInBounds j v) n' } := ⟨_, rfl⟩
  obtain ⟨n', e⟩ := e
  refine ki_setAt ho (by omega) hfit (by simpa using hj) (hQ _ n' ?_ (Heap.SameBut.update ..))
  rw [Int.toNat_natCast, Heap.get?_update_self _ ho (by rw [e]; rfl), e]

theorem swaps_name (G ns : List Str) (env : Env) (t : Str) (p : Pos) (line : Nat) (hf : env.scope.kind = .function) : ∀ (x : X), (isComp x = false ∨ env.kindOf t = some .cell) → swapsWith (back G ns x) (some (.Name t p)) line env = pure false
  | .var .., _ => rfl | .int .., _ => rfl | .none .., _ => rfl | .bool .., _ => rfl | .bin .., _ => rfl | .neg .., _ => rfl | .cmp .., _ => rfl | .ite .., _ => rfl | .and .., _ => rfl | .or .., _ => rfl
  | .call .., _ => rfl | .bi .., _ => rfl | .sub .., _ => rfl | .upto .., _ => rfl | .from_ .., _ => rfl | .list .., _ => rfl | .tup .., _ => rfl | .bad, _ => rfl
  | .comp .., h => by
    have k := h.resolve_left (fun z => by cases z)
    have e : ∀ b, (env.blockKind == .function && (some NameKind.cell == some .local) && b) = false := fun b => by cases env.blockKind == .function <;> rfl
    simp only [back, swapsWith, k]
    cases env.blockKind == .function <;> rfl
theorem swaps_sub (G ns : List Str) (env : Env) (o i : PySem.Expr) (p : Pos) (line : Nat) : ∀ (x : X), swapsWith (back G ns x) (some (.Subscript o i p)) line env = pure false
  | .var .. => rfl | .int .. => rfl | .none .. => rfl | .bool .. => rfl | .bin .. => rfl | .neg .. => rfl | .cmp .. => rfl | .ite .. => rfl | .and .. => rfl | .or .. => rfl
  | .call .. => rfl | .bi .. => rfl | .sub .. => rfl | .upto .. => rfl | .from_ .. => rfl | .list .. => rfl | .tup .. => rfl | .comp .. => rfl | .bad => rfl
theorem aug_back (G ns : List Str) (ov iv new : Value) : ∀ (x : X), augStore (back G ns x) ov iv new = (do holding [new, ov, iv] (setItem ov iv new); release [new, ov, iv] []; pure .next)
  | .var .. => rfl | .int .. => rfl | .none .. => rfl | .bool .. => rfl | .bin .. => rfl | .neg .. => rfl | .cmp .. => rfl | .ite .. => rfl | .and .. => rfl | .or .. => rfl
  | .call .. => rfl | .bi .. => rfl | .sub .. => rfl | .upto .. => rfl | .from_ .. => rfl | .list .. => rfl | .tup .. => rfl | .comp .. => rfl | .bad => rfl
theorem sw_shape {α : Type} (names : α) (c1 b a c2 f c : Bool) (hb : b = false) (hc : c = false) (U : Sem PUnit) :
    (if (c1 || b) = true then pure none else if a = true then pure none else if c2 = true then pure none else if f = true then pure none else if c = true then (U >>= fun _ => pure (some names)) else pure (some names)) =
      (pure (if c1 = true then none else if a = true then none else if c2 = true then none else if f = true then none else some names) : Sem (Option α)) := by
  subst hb hc
  cases c1 <;> cases a <;> cases c2 <;> cases f <;> rfl
theorem swapped_tup (env : Env) (hf : env.scope.kind = .function) (ts vs : List PySem.Expr) (c c' : Nat) (p p' : Pos) (hc : vs.all (constantsAlone 8) = false) :
    swappedStores [.Tuple ts c p] (.Tuple vs c' p') env = pure (swapQ (fun y => env.scope.names.lookup y) ts vs) := by
  have hb : (env.blockKind != .function) = false := by unfold Env.blockKind; rw [hf]; rfl
  exact sw_shape _ _ _ _ _ _ _ hb hc _
theorem assignEach_names (ns : List Str) (env : Env) : ∀ (ts : List (Nat × Pos)), assignEach (ts.map fun t => PySem.Expr.Name (nth ns t.1) t.2) env = ts.map fun t => (false, assign (.Name (nth ns t.1) t.2) env)
  | [] => rfl
  | t :: ts => by rw [List.map_cons, List.map_cons, ← assignEach_names ns env ts]; rfl
theorem Near.ofSet {env : Env} {b : Addr} : Own env b → Near env b := Own.near

section
variable {P : List FnE} {G : List Str} {r : Rec} {prog : Program} {w : World} {A : Around} {E' : Value → Shared → Prop} {hb : Heap} {env : Env} {sc : Scope} {ns : List Str}
theorem ExtX.after {X ρ ρ₁ ρ₂ : List Addr} {h h₁ h₂ : Heap} (x : Ext ρ h ρ₁ h₁) (l : ∀ a ∈ ρ, ∃ o, h₁.get? a = some o) (y : ExtX env X ρ₁ h₁ ρ₂ h₂) (hX : ∀ b ∈ X, h.get? b = none) : ExtX env [] ρ h ρ₂ h₂ := by
  obtain ⟨ν, rfl, hν⟩ := x.pre
  obtain ⟨μ, rfl, hμ⟩ := y.pre
  refine ⟨⟨ν ++ μ, by rw [List.append_assoc], fun b q => ?_⟩, fun b o e nb no _ => y.keep b o (x.keep b o e nb) (fun q => ?_) no fun q => ?_⟩
  · rcases List.mem_append.mp q with q | q
    · exact hν b q
    · exact x.back l (hμ b q)
  · rcases List.mem_append.mp q with q | q
    · exact nb q
    · rw [hν b q] at e; cases e
  · rw [hX b q] at e; cases e
theorem ExtX.store {X ρ ρ₁ : List Addr} {h h₁ h₂ : Heap} (x : Ext ρ h ρ₁ h₁) (k : ∀ b o, h₁.get? b = some o → ¬ Own env b → h₂.get? b = some o) : ExtX env X ρ h ρ₁ h₂ :=
  ⟨x.pre, fun b o e nb no _ => k b o (x.keep b o e nb) no⟩
theorem ExtX.ext {X ρ ρ₁ : List Addr} {h h₁ : Heap} (x : Ext ρ h ρ₁ h₁) : ExtX env X ρ h ρ₁ h₁ := ⟨x.pre, fun b o e nb _ _ => x.keep b o e nb⟩
theorem setAll_sound {ρ : List Addr} {m : M} (f : Nat × Pos → Value → Sem Unit) (hf : ∀ t x Q s, wpAny (model prog w) A (storeName env (nth ns t.1) x) Q E' s → wpAny (model prog w) A (f t x) Q E' s) (fn : env.func.isSome = true) (Q : Unit → Shared → Prop) :
    ∀ (ts : List (Nat × Pos)) (vs : List V) (ws : List Value) (e e' : E) (s : Shared), setAll e ts vs = some e' → VRs ρ vs ws → St hb env sc ns e ρ m s.heap →
      (∀ h' tk, St hb env sc ns e' ρ m h' → (∀ b o, s.heap.get? b = some o → ¬ Own env b → h'.get? b = some o) → Q () { s with heap := h', toks := tk }) → wpAny (model prog w) A (assignInOrder (ts.map f) ws) Q E' s := by
  intro ts
  induction ts with
  | nil =>
    intro vs ws e e' s h r S p
    cases vs with
    | nil =>
      cases r
      cases h
      exact wpAny_pure (p s.heap s.toks S fun _ _ q _ => q)
    | cons => cases h
  | cons t ts ih =>
    intro vs ws e e' s h r S p
    cases r with
    | nil => cases h
    | @cons v x vs ws a r =>
      unfold setAll at h
      split at h
      · rename_i e₁ h1
        have ee : assignInOrder ((t :: ts).map f) (x :: ws) = (do holding ws (f t x); assignInOrder (ts.map f) ws) := rfl
        rw [ee]
        refine wpAny_bind (wpAny_holding (hf t x _ _ (store_sound S h1 (.inl fn) a fun h₁ tk₁ S₁ k₁ => ?_)))
        refine ih vs ws e₁ e' { s with heap := h₁, toks := tk₁ } h r S₁ fun h₂ tk₂ S₂ k₂ => ?_
        exact p h₂ tk₂ S₂ fun b o q n => k₂ b o (k₁ b o q n) n
      · cases h
theorem VRs.reverse {ρ : List Addr} : ∀ {vs : List V} {ws : List Value}, VRs ρ vs ws → VRs ρ vs.reverse ws.reverse
  | _, _, .nil => .nil
  | _, _, .cons a r => by rw [List.reverse_cons, List.reverse_cons]; exact r.reverse.append (.cons a .nil)
end
end Mine

namespace Mine
open PySem PySem.W PyProof.Rows

section
variable {P : List FnE} {G : List Str} {r : Rec}
def StOk (P : List FnE) (G : List Str) (d : Nat) (e : E) (m : M) (st : S) (fl : Fl) (e' : E) (m' : M) : Prop :=
  ∀ (prog : Program) (w : World) (A : Around) (E' : Value → Shared → Prop) (s : Shared) (hb : Heap) (env : Env) (sc : Scope) (ns : List Str) (ρ : List Addr) (Q : Flow → Shared → Prop),
    Amb A d → Mod P G hb → St hb env sc ns e ρ m s.heap → env.scope = sc → env.func.isSome = true → wfS G ns sc st = true → PF hb env sc ns [] ρ s fl e' m' Q → wpAny (model prog w) A (exec (backS G ns st) env) Q E' s
theorem cell_of {hb : Heap} {env : Env} {sc : Scope} {ns : List Str} {e e' : E} {ρ : List Addr} {m : M} {h : Heap} {k : Nat} {v : V} (S : St hb env sc ns e ρ m h) (he : e.set k v = some e') (hc : e.isCell k = true) : env.kindOf (nth ns k) = some .cell := by
  obtain ⟨mm, hn, hs⟩ := S.env.vars
  obtain ⟨pr, ep, _⟩ := set_get he
  obtain ⟨_, _, sl⟩ := hs.nth ep
  match pr, ep, sl with
  | (false, ov), ep, sl => rw [set_cellAt ep] at hc; cases hc
  | (true, ov), ep, sl => exact sl.1
theorem PF.after {hb : Heap} {env : Env} {sc : Scope} {ns : List Str} {ρ ρ₁ : List Addr} {s : Shared} {fl : Fl} {e' : E} {m₁ m' : M} {Q : Flow → Shared → Prop} {h₁ : Heap} {tk₁ : Nat} (p : PF hb env sc ns [] ρ s fl e' m' Q) (x : Ext ρ s.heap ρ₁ h₁) (s₁ : Sto h₁ ρ₁ m₁) :
    PF hb env sc ns [] ρ₁ { s with heap := h₁, toks := tk₁ } fl e' m' Q :=
  fun ρ' h' tk f x' S' fr => p ρ' h' tk f (ExtX.after x (x.sub s₁) x' fun _ q => nomatch q) S' fr

theorem setAll_len : ∀ {ts : List (Nat × Pos)} {vs : List V} {e e' : E}, setAll e ts vs = some e' → ts.length = vs.length
  | [], [], _, _, _ => rfl
  | [], _ :: _, _, _, h => by cases h
  | _ :: _, [], _, _, h => by cases h
  | t :: ts, v :: vs, e, e', h => by
    unfold setAll at h
    split at h
    · rw [List.length_cons, List.length_cons, setAll_len h]
    · cases h
set_option maxHeartbeats 800000 in
theorem ex_step (H : RecOk P G r) : ∀ d e m st fl e' m', exStep r d e m st = some (fl, e', m') → StOk P G d e m st fl e' m' := by
  intro d e m st fl e' m' h prog w A E' s hb env sc ns ρ Q am M₀ S hsc fn wf p
  unfold exStep at h
  cases st with
  | asg k pk x q =>
    simp only [wfS] at wf
    simp only at h
    split at h
    · cases h
    · rename_i hcc
      split at h
      · rename_i v m₁ h1
        split at h
        · rename_i e₁ h2
          cases h
          show wpAny _ A (exec (.Assign [.Name (nth ns k) pk] (back G ns x) q) env) Q E' s
          refine wpAny_Assign_Name (H.ev _ _ _ _ _ _ h1 _ _ _ _ _ _ _ _ _ _ _ _ am M₀ S wf fun ρ₁ h₁ tk₁ a x₁ s₁ v₁ => ?_) (swaps_name G ns env _ _ _ S.env.fn x ?_)
          · refine store_sound (s := { s with heap := h₁, toks := tk₁ }) (S.ext x₁ s₁) h2 (.inl fn) v₁ fun h₂ tk₂ S₂ k₂ => ?_
            exact p ρ₁ h₂ tk₂ .next (.store x₁ k₂) S₂ rfl
          · simp only [Bool.and_eq_false_iff, Bool.not_eq_false'] at hcc
            exact hcc.imp id fun z => cell_of S h2 z
        · cases h
      · cases h
  | tup sw ts c pt x q =>
    simp only [wfS, Bool.and_eq_true] at wf
    simp only at h
    split at h
    · rename_i k m₁ h1
      split at h
      · rename_i vs ek
        split at h
        · rename_i e₁ h2
          cases h
          -- the tuple's own places, taken in order
          have plain : swappedStores [.Tuple (ts.map fun t => PySem.Expr.Name (nth ns t.1) t.2) c pt] (back G ns x) env = pure none → swapsWithSole [.Tuple (ts.map fun t => PySem.Expr.Name (nth ns t.1) t.2) c pt] (back G ns x) q.line env = pure false → setAll e ts vs = some e' →
              wpAny (model prog w) A (exec (.Assign [.Tuple (ts.map fun t => PySem.Expr.Name (nth ns t.1) t.2) c pt] (back G ns x) q) env) Q E' s := by
            intro hw hs h2
            refine Assign_Tuple (H.ev _ _ _ _ _ _ h1 _ _ _ _ _ _ _ _ _ _ _ _ am M₀ S wf.1 fun ρ₁ h₁ tk₁ a x₁ s₁ v₁ => ?_) hs hw
            obtain ⟨l, ws, n, rfl, el, hl, hr⟩ := Sto.tup (s := { s with heap := h₁, toks := tk₁ }) s₁ ek v₁
            have hlen := setAll_len h2
            refine wpAny_assign_Tuple am.hh (s := { s with heap := h₁, toks := tk₁ }) (items := ws.toArray) ⟨_, hl, rfl, _, rfl⟩ ?_ ?_ fun h₂ hs₂ => ?_
            · rw [assignEach_names, List.length_map, hlen, hr.length]; simp
            · rw [assignEach_names]; rw [List.findIdx?_eq_none_iff]; intro y hy; obtain ⟨t, _, rfl⟩ := List.mem_map.mp hy; rfl
            · rw [assignEach_names, List.map_map]
              have kp : ∀ b o, h₁.get? b = some o → h₂.get? b = some o := fun b o z => hs₂ b o (Nat.ne_of_lt (Heap.lt_size z)) z
              have S₂ := (S.ext x₁ s₁).keep kp
              refine setAll_sound (fun t => assign (.Name (nth ns t.1) t.2) env) (fun t y Q s hq => wpAny_assign_Name hq) fn _ ts vs ws e e' { s with heap := h₂, toks := tk₁ } h2 hr S₂ fun h₃ tk₃ S₃ k₃ => ?_
              exact p ρ₁ h₃ tk₃ .next (.store (x₁.trans (x₁.sub s₁) (.of_keep kp)) k₃) S₃ rfl
          have turned : swappedStores [.Tuple (ts.map fun t => PySem.Expr.Name (nth ns t.1) t.2) c pt] (back G ns x) env = pure (some (ts.map fun t => nth ns t.1)) → swapsWithSole [.Tuple (ts.map fun t => PySem.Expr.Name (nth ns t.1) t.2) c pt] (back G ns x) q.line env = pure false → ts.length = vs.length → setAll e ts.reverse vs.reverse = some e' →
              wpAny (model prog w) A (exec (.Assign [.Tuple (ts.map fun t => PySem.Expr.Name (nth ns t.1) t.2) c pt] (back G ns x) q) env) Q E' s := by
            intro hw hs hlen h2
            refine Assign_Tuple_swapped (H.ev _ _ _ _ _ _ h1 _ _ _ _ _ _ _ _ _ _ _ _ am M₀ S wf.1 fun ρ₁ h₁ tk₁ a x₁ s₁ v₁ => ?_) hs hw
            obtain ⟨l, ws, n, rfl, el, hl, hr⟩ := Sto.tup (s := { s with heap := h₁, toks := tk₁ }) s₁ ek v₁
            have hn : (ts.map fun t => nth ns t.1).length = ws.toArray.size := by rw [List.length_map, hlen, hr.length]; simp
            rw [hn]
            refine unpackItems_tuple am.hh (s := { s with heap := h₁, toks := tk₁ }) (isTup_of hl) fun h₂ hs₂ => ?_
            have kp : ∀ b o, h₁.get? b = some o → h₂.get? b = some o := fun b o z => hs₂ b o (Nat.ne_of_lt (Heap.lt_size z)) z
            have S₂ := (S.ext x₁ s₁).keep kp
            rw [← List.map_reverse, List.map_map]
            refine setAll_sound (fun t => bindName env (nth ns t.1)) (fun t y Q s hq => wpAny_bindName hq) fn _ ts.reverse vs.reverse ws.reverse e e' { s with heap := h₂, toks := tk₁ } h2 hr.reverse S₂ fun h₃ tk₃ S₃ k₃ => ?_
            exact p ρ₁ h₃ tk₃ .next (.store (x₁.trans (x₁.sub s₁) (.of_keep kp)) k₃) S₃ rfl
          have eb : backS G ns (.tup sw ts c pt x q) = .Assign [.Tuple (ts.map fun t => PySem.Expr.Name (nth ns t.1) t.2) c pt] (back G ns x) q := by rw [backS]
          rw [eb]
          obtain ⟨wx, wf⟩ := wf
          clear eb
          generalize hpl : (wpAny (model prog w) A (exec (.Assign [.Tuple (ts.map fun t => PySem.Expr.Name (nth ns t.1) t.2) c pt] (back G ns x) q) env) Q E' s) = goal at plain turned ⊢
          clear hpl p h1
          cases x with
          | tup es c' p' =>
            simp only [Bool.and_eq_true, Bool.not_eq_true'] at wf
            have hq := swapped_tup env S.env.fn (ts.map fun t => PySem.Expr.Name (nth ns t.1) t.2) (backs G ns es) c c' pt p' wf.1
            have sw' := wf.2
            rw [hsc] at hq
            cases hz : swapQ (fun y => sc.names.lookup y) (ts.map fun t => PySem.Expr.Name (nth ns t.1) t.2) (backs G ns es) with
            | none =>
              rw [hz] at hq sw'
              have : sw = false := by simpa using sw'
              subst this
              exact plain hq rfl h2
            | some names =>
              rw [hz] at hq sw'
              simp only [Bool.and_eq_true, beq_iff_eq] at sw'
              obtain ⟨rfl, rfl⟩ := sw'
              simp only at h2
              split at h2
              · rename_i hl
                exact turned hq rfl (Nat.eq_of_beq_eq_true hl) h2
              · cases h2
          | call f as pf p' =>
            have : sw = false := by simpa using wf
            subst this
            exact plain rfl rfl h2
          | _ => cases wf
        · cases h
      · cases h
    · cases h
  | seti o po i pi x q =>
    simp only [wfS, Bool.and_eq_true] at wf
    simp only at h
    split at h
    · rename_i v m₁ h1
      split at h
      · rename_i k h2
        split at h
        · rename_i j m₂ h3
          split at h
          · rename_i vs ek
            split at h
            · rename_i hj
              cases h
              show wpAny _ A (exec (.Assign [.Subscript (.Name (nth ns o) po) (back G ns i) pi] (back G ns x) q) env) Q E' s
              refine wpAny_Assign_Subscript (H.ev _ _ _ _ _ _ h1 _ _ _ _ _ _ _ _ _ _ _ _ am M₀ S wf.2 fun ρ₁ h₁ tk₁ a x₁ s₁ v₁ => ?_) (swaps_sub G ns env _ _ _ _ x)
              refine load_sound (s := { s with heap := h₁, toks := tk₁ }) (S.ext x₁ s₁) h2 fun b hb' => ?_
              refine H.ev _ _ _ _ _ _ h3 _ _ _ _ { s with heap := h₁, toks := tk₁ } _ _ _ _ _ _ _ am M₀ (S.ext x₁ s₁) wf.1 fun ρ₂ h₂ tk₂ c x₂ s₂ v₂ => ?_
              obtain ⟨t, rfl⟩ := v₂
              obtain ⟨l, ws, n, rfl, el, hl, hr⟩ := Sto.list (s := { s with heap := h₂, toks := tk₂ }) s₂ ek (x₂.vr hb')
              simp only [Bool.and_eq_true] at hj
              have j1 : j < vs.length := Nat.le_of_ble_eq_true hj.1
              have j2 := sm_le hj.2
              refine setItem_plain (s := { s with heap := h₂, toks := tk₂ }) (j := j) hl (by simp only [Int.ofNat_eq_natCast, Int.natAbs_natCast] at j2; omega) (by rw [hr.length] at j1; simpa using j1) fun h₃ n' ho₃ hs₃ => ?_
              rw [show ws.toArray.setIfInBounds j a = (ws.set j a).toArray by apply Array.toList_inj.mp; simp] at ho₃
              have x₁₂ := x₁.trans (x₁.sub s₁) x₂
              have S₂ := S.ext x₁₂ s₂
              have sto₃ : Sto h₃ ρ₂ ⟨m₂.t.set k (.list (setV vs j v)), m₂.n⟩ := s₂.put el hs₃ ⟨_, n', ho₃, hr.set (x₂.vr v₁)⟩
              have e₃ : Ext ρ₂ h₂ ρ₂ h₃ := .put el hs₃
              exact p ρ₂ h₃ tk₂ .next (.ext (x₁₂.trans (x₁₂.sub s₂) e₃)) (S₂.ext e₃ sto₃) rfl
            · cases h
          · cases h
        · cases h
      · cases h
    · cases h
  | aug k pk op x q =>
    simp only [wfS] at wf
    simp only at h
    split at h
    · rename_i a h1
      split at h
      · rename_i b m₁ h2
        show wpAny _ A (exec (.AugAssign (.Name (nth ns k) pk) op.back (back G ns x) q) env) Q E' s
        have go : ∀ c : Int, e.set k (.int c) = some e' → fl = .next → m' = m₁ → (∀ (t u : Tok) (K : Value → Shared → Prop) (E'' : Value → Shared → Prop) s, K (.int c s.toks) { s with toks := s.toks + 1 } → wpAny (model prog w) A (inplaceOp op.back (.int a t) (.int b u)) K E'' s) → wpAny (model prog w) A (exec (.AugAssign (.Name (nth ns k) pk) op.back (back G ns x) q) env) Q E' s := by
          intro c hc hfl hm hop
          subst hfl hm
          refine wpAny_AugAssign_Name (loadn_sound S h1 fun y hy => ?_)
          obtain ⟨t, rfl⟩ := hy
          refine H.ev _ _ _ _ _ _ h2 _ _ _ _ _ _ _ _ _ _ _ _ am M₀ S wf fun ρ₁ h₁ tk₁ z x₁ s₁ v₁ => ?_
          obtain ⟨u, rfl⟩ := v₁
          refine hop t u _ _ _ ?_
          refine store_sound (s := { s with heap := h₁, toks := tk₁ + 1 }) (S.ext x₁ s₁) hc (.inl fn) ⟨_, rfl⟩ fun h₂ tk₂ S₂ k₂ => ?_
          exact p ρ₁ h₂ tk₂ .next (.store x₁ k₂) S₂ rfl
        split at h
        · split at h
          · rename_i e₁ h3
            cases h
            exact go _ h3 rfl rfl fun t u K E'' s hk => PySem.P.iadd_int hk
          · cases h
        · split at h
          · rename_i e₁ h3
            cases h
            exact go _ h3 rfl rfl fun t u K E'' s hk => PySem.P.isub_int hk
          · cases h
        · cases h
      · cases h
    · cases h
  | augi o po i pi op x q =>
    simp only [wfS, Bool.and_eq_true] at wf
    simp only at h
    split at h
    · rename_i k h1
      split at h
      · rename_i j m₁ h2
        split at h
        · rename_i vs ek
          split at h
          · rename_i a en
            split at h
            · rename_i hsm
              split at h
              · rename_i b m₂ h3
                split at h
                · split at h
                  · rename_i vs' ek'
                    split at h
                    · rename_i hj
                      cases h
                      show wpAny _ A (exec (.AugAssign (.Subscript (.Name (nth ns o) po) (back G ns i) pi) .Add (back G ns x) q) env) Q E' s
                      refine wpAny_AugAssign_SubscriptAny (load_sound S h1 fun y hy => ?_) fun ov iv new => aug_back G ns ov iv new i
                      refine H.ev _ _ _ _ _ _ h2 _ _ _ _ _ _ _ _ _ _ _ _ am M₀ S wf.1 fun ρ₁ h₁ tk₁ z x₁ s₁ v₁ => ?_
                      obtain ⟨t, rfl⟩ := v₁
                      obtain ⟨l, ws, n, rfl, el, hl, hr⟩ := Sto.list (s := { s with heap := h₁, toks := tk₁ }) s₁ ek (x₁.vr hy)
                      have j2 := sm_le hsm
                      simp only [Int.ofNat_eq_natCast, Int.natAbs_natCast] at j2
                      obtain ⟨y', ey, hy'⟩ := hr.nth en
                      obtain ⟨t', rfl⟩ := hy'
                      refine wpAny_getItem_list (s := { s with heap := h₁, toks := tk₁ }) (isList_of hl) (by simp) (by simp only [Int.ofNat_eq_natCast]; omega) (x := .int a t') (by simpa using ey) ?_
                      refine H.ev _ _ _ _ _ _ h3 _ _ _ _ { s with heap := h₁, toks := tk₁ } _ _ _ _ _ _ _ am M₀ (S.ext x₁ s₁) wf.2 fun ρ₂ h₂ tk₂ z x₂ s₂ v₂ => ?_
                      obtain ⟨u, rfl⟩ := v₂
                      refine PySem.P.iadd_int (s := { s with heap := h₂, toks := tk₂ }) ?_
                      have hy₂ := x₂.vr (x₁.vr hy)
                      obtain ⟨l', ws', n', eq, el', hl', hr'⟩ := Sto.list (s := { s with heap := h₂, toks := tk₂ }) s₂ ek' hy₂
                      cases eq
                      have j1 : j < vs'.length := Nat.le_of_ble_eq_true hj
                      refine setItem_plain (s := { s with heap := h₂, toks := tk₂ + 1 }) (j := j) hl' (by omega) (by rw [hr'.length] at j1; simpa using j1) fun h₃ n'' ho₃ hs₃ => ?_
                      rw [show ws'.toArray.setIfInBounds j (Value.int (a + b) tk₂) = (ws'.set j (Value.int (a + b) tk₂)).toArray by apply Array.toList_inj.mp; simp] at ho₃
                      have x₁₂ := x₁.trans (x₁.sub s₁) x₂
                      have S₂ := S.ext x₁₂ s₂
                      have sto₃ : Sto h₃ ρ₂ ⟨m₂.t.set k (.list (setV vs' j (.int (Int.add a b)))), m₂.n⟩ := s₂.put el' hs₃ ⟨_, n'', ho₃, hr'.set ⟨_, rfl⟩⟩
                      have e₃ : Ext ρ₂ h₂ ρ₂ h₃ := .put el' hs₃
                      exact p ρ₂ h₃ (tk₂ + 1) .next (.ext (x₁₂.trans (x₁₂.sub s₂) e₃)) (S₂.ext e₃ sto₃) rfl
                    · cases h
                  · cases h
                · cases h
              · cases h
            · cases h
          · cases h
        · cases h
      · cases h
    · cases h
  | append o po pa x pc q =>
    simp only [wfS, Bool.and_eq_true] at wf
    simp only at h
    split at h
    · rename_i k h1
      split at h
      · rename_i vs₀ ek₀
        split at h
        · rename_i v m₁ h2
          split at h
          · rename_i vs ek
            split at h
            · rename_i hf
              cases h
              show wpAny _ A (exec (.Expr (.Call (.Attribute (.Name (nth ns o) po) "append" pa) [back G ns x] [] pc) q) env) Q E' s
              refine wpAny_Expr (wpAny_Call_append rfl ?_ wf.2 ?_ (load_sound S h1 fun y hy => ?_)) (by unfold interactive; rw [S.env.fn]; rfl) rfl
              · rw [star_back]; rfl
              · rw [star_back]; rfl
              · obtain ⟨l, ws, n, rfl, el, hl, hr⟩ := S.sto.list ek₀ hy
                refine ⟨l, ws.toArray, rfl, ⟨_, n, hl, rfl, rfl, rfl⟩, ?_⟩
                refine H.ev _ _ _ _ _ _ h2 _ _ _ _ _ _ _ _ _ _ _ _ am M₀ S wf.1 fun ρ₁ h₁ tk₁ z x₁ s₁ v₁ => ?_
                obtain ⟨l', ws', n', eq, el', hl', hr'⟩ := Sto.list (s := { s with heap := h₁, toks := tk₁ }) s₁ ek (x₁.vr hy)
                cases eq
                have z' := few_le hf
                rw [hr'.length] at z'
                refine wpAny_list_append_plain (s := { s with heap := h₁, toks := tk₁ }) ⟨n', hl'⟩ (fun h₂ hp₂ hs₂ => ?_) (by simp only [List.size_toArray]; rw [sizeLine_eq]; omega)
                obtain ⟨n'', ho₂⟩ := hp₂
                rw [show ws'.toArray.push z = (ws' ++ [z]).toArray by simp] at ho₂
                have S₁ := S.ext x₁ s₁
                have sto₂ : Sto h₂ ρ₁ ⟨m₁.t.set k (.list (vs ++ [v])), m₁.n⟩ := s₁.put el' hs₂ ⟨_, n'', ho₂, hr'.append (.cons v₁ .nil)⟩
                have e₂ : Ext ρ₁ h₁ ρ₁ h₂ := .put el' hs₂
                exact p ρ₁ h₂ tk₁ .next (.ext (x₁.trans (x₁.sub s₁) e₂)) (S₁.ext e₂ sto₂) rfl
            · cases h
          · cases h
        · cases h
      · cases h
    · cases h
  | expr x q =>
    simp only [wfS] at wf
    simp only at h
    split at h
    · rename_i f as pf p'
      split at h
      · rename_i m₁ h1
        cases h
        show wpAny _ A (exec (.Expr (back G ns (.call f as pf p')) q) env) Q E' s
        refine wpAny_Expr (H.ev _ _ _ _ _ _ h1 _ _ _ _ _ _ _ _ _ _ _ _ am M₀ S wf fun ρ₁ h₁ tk₁ z x₁ s₁ v₁ => ?_) (by unfold interactive; rw [S.env.fn]; rfl) rfl
        cases v₁
        exact p ρ₁ h₁ tk₁ .next (.ext x₁) (S.ext x₁ s₁) rfl
      · cases h
    · cases h
  | ite t a b q =>
    simp only [wfS, Bool.and_eq_true] at wf
    simp only at h
    show wpAny _ A (exec (.If (back G ns t) (backSs G ns a) (backSs G ns b) q) env) Q E' s
    split at h
    · rename_i m₁ h1
      refine wpAny_If (H.tst _ _ _ _ _ _ h1 _ _ _ _ _ _ _ _ _ _ _ _ am M₀ S wf.1.1 fun ρ₁ h₁ tk₁ x₁ s₁ => ?_)
      rw [if_pos rfl]
      exact H.exs _ _ _ _ _ _ _ h _ _ _ _ { s with heap := h₁, toks := tk₁ } _ _ _ _ _ _ am M₀ (S.ext x₁ s₁) hsc fn wf.1.2 (p.after x₁ s₁)
    · rename_i m₁ h1
      refine wpAny_If (H.tst _ _ _ _ _ _ h1 _ _ _ _ _ _ _ _ _ _ _ _ am M₀ S wf.1.1 fun ρ₁ h₁ tk₁ x₁ s₁ => ?_)
      rw [if_neg Bool.false_ne_true]
      exact H.exs _ _ _ _ _ _ _ h _ _ _ _ { s with heap := h₁, toks := tk₁ } _ _ _ _ _ _ am M₀ (S.ext x₁ s₁) hsc fn wf.2 (p.after x₁ s₁)
    · cases h
  | while_ t a q =>
    simp only [wfS, Bool.and_eq_true] at wf
    simp only at h
    show wpAny _ A (exec (.While (back G ns t) (backSs G ns a) [] q) env) Q E' s
    exact wpAny_While (H.whl _ _ _ _ _ _ _ _ h _ _ _ _ _ _ _ _ _ _ am M₀ S hsc fn wf.1 wf.2 p)
  | for_ tg sk sx pf ps body q =>
    simp only [wfS, Bool.and_eq_true, Bool.not_eq_true'] at wf
    simp only at h
    split at h
    · rename_i it m₁ h1
      show wpAny _ A (exec (.For (tg.back ns) (srcOf sk (backs G ns sx) pf ps) (backSs G ns body) [] q) env) Q E' s
      refine wpAny_For (start_sound H am M₀ S h1 wf.1.1.1 wf.1.1.2 wf.1.2 fun ρ₁ h₁ tk₁ its a x₁ s₁ R₁ ha fr => ?_) fun v => fold_src G ns env v
      have off : Off env ρ₁ its := fun b hb' => ⟨(fr b hb').1, fun z => by
        obtain ⟨o, q⟩ := S.env.liveOwn b z
        rw [(fr b hb').2] at q; cases q⟩
      have hits : ∀ b ∈ its, hb.get? b = none := fun b q => by
        cases z : hb.get? b with
        | none => rfl
        | some o => have := S.base.keep b o z; rw [(fr b q).2] at this; cases this
      refine H.lop _ _ _ _ _ _ _ _ _ h _ _ _ { s with heap := h₁, toks := tk₁ } _ _ _ _ _ _ _ _ am M₀ (S.ext x₁ s₁) hsc fn wf.2 R₁ off hits ha fun ρ₂ h₂ tk₂ f x₂ S₂ fr₂ => ?_
      exact p ρ₂ h₂ tk₂ f (.after x₁ (x₁.sub s₁) x₂ fun b q => (fr b q).2) S₂ fr₂
    · cases h
  | ret x q =>
    simp only [wfS] at wf
    simp only at h
    split at h
    · rename_i v m₁ h1
      cases h
      show wpAny _ A (exec (.Return (some (back G ns x)) q) env) Q E' s
      refine wpAny_Return_some (H.ev _ _ _ _ _ _ h1 _ _ _ _ _ _ _ _ _ _ _ _ am M₀ S wf fun ρ₁ h₁ tk₁ z x₁ s₁ v₁ => ?_)
      exact p ρ₁ h₁ tk₁ (.ret z) (.ext x₁) (S.ext x₁ s₁) ⟨z, rfl, v₁⟩
    · cases h
  | raw st => cases h
end
end Mine

namespace Mine
open PySem PySem.W PyProof.Rows

section
variable {P : List FnE} {G : List Str} {r : Rec}
theorem liveX {hb : Heap} {env : Env} {sc : Scope} {ns : List Str} {e : E} {ρ ρ' X : List Addr} {m : M} {h h' : Heap} (S : St hb env sc ns e ρ' m h') (x : ExtX env X ρ h ρ' h') (l : ∀ a ∈ X, ∃ o, h'.get? a = some o) : ∀ a, a ∈ ρ ∨ Own env a ∨ a ∈ X → ∃ o, h'.get? a = some o := fun a q => by
  obtain ⟨ν, rfl, _⟩ := x.pre
  rcases q with q | q | q
  · exact S.sto.live a (List.mem_append_left _ q)
  · exact S.env.liveOwn a q.near
  · exact l a q
theorem exs_step (H : RecOk P G r) : ∀ d e m ss fl e' m', exsStep r d e m ss = some (fl, e', m') → ExOk P G d e m ss fl e' m' := by
  intro d e m ss fl e' m' h prog w A E' s hb env sc ns ρ Q am M₀ S hsc fn wf p
  unfold exsStep at h
  cases ss with
  | nil => cases h; exact wpAny_execs_nil (p ρ s.heap s.toks .next (.ext (.refl ..)) S rfl)
  | cons st ss =>
    simp only [wfSs, Bool.and_eq_true] at wf
    simp only at h
    show wpAny _ A (execs (backS G ns st :: backSs G ns ss) env) Q E' s
    split at h
    · rename_i e₁ m₁ h1
      refine wpAny_execs_cons (ex_step H _ _ _ _ _ _ _ h1 _ _ _ _ _ _ _ _ _ _ _ am M₀ S hsc fn wf.1 fun ρ₁ h₁ tk₁ f x₁ S₁ fr => ?_)
      cases fr
      refine H.exs _ _ _ _ _ _ _ h _ _ _ _ { s with heap := h₁, toks := tk₁ } _ _ _ _ _ _ am M₀ S₁ hsc fn wf.2 fun ρ₂ h₂ tk₂ f x₂ S₂ fr => ?_
      exact p ρ₂ h₂ tk₂ f (x₁.trans (liveX S₁ x₁ fun _ q => nomatch q) x₂) S₂ fr
    · rename_i v e₁ m₁ h1
      cases h
      refine wpAny_execs_cons (ex_step H _ _ _ _ _ _ _ h1 _ _ _ _ _ _ _ _ _ _ _ am M₀ S hsc fn wf.1 fun ρ₁ h₁ tk₁ f x₁ S₁ fr => ?_)
      obtain ⟨z, rfl, vz⟩ := fr
      exact p ρ₁ h₁ tk₁ _ x₁ S₁ ⟨z, rfl, vz⟩
    · cases h
theorem whl_step (H : RecOk P G r) : ∀ d e m t ss fl e' m', whlStep r d e m t ss = some (fl, e', m') → WhOk P G d e m t ss fl e' m' := by
  intro d e m t ss fl e' m' h prog w A s hb env sc ns ρ R am M₀ S hsc fn wt wf p
  unfold whlStep at h
  split at h
  · rename_i m₁ h1
    refine while_step (H.tst _ _ _ _ _ _ h1 _ _ _ _ _ _ _ _ _ _ _ _ am M₀ S wt fun ρ₁ h₁ tk₁ x₁ s₁ => ?_)
    rw [if_pos rfl]
    have p₁ := p.after (tk₁ := tk₁) x₁ s₁
    split at h
    · rename_i e₂ m₂ h2
      refine H.exs _ _ _ _ _ _ _ h2 _ _ _ _ { s with heap := h₁, toks := tk₁ } _ _ _ _ _ _ am M₀ (S.ext x₁ s₁) hsc fn wf fun ρ₂ h₂ tk₂ f x₂ S₂ fr => ?_
      cases fr
      refine H.whl _ _ _ _ _ _ _ _ h _ _ _ { s with heap := h₂, toks := tk₂ } _ _ _ _ _ _ am M₀ S₂ hsc fn wt wf fun ρ₃ h₃ tk₃ f x₃ S₃ fr => ?_
      exact p₁ ρ₃ h₃ tk₃ f (x₂.trans (liveX S₂ x₂ fun _ q => nomatch q) x₃) S₃ fr
    · rename_i v e₂ m₂ h2
      cases h
      refine H.exs _ _ _ _ _ _ _ h2 _ _ _ _ { s with heap := h₁, toks := tk₁ } _ _ _ _ _ _ am M₀ (S.ext x₁ s₁) hsc fn wf fun ρ₂ h₂ tk₂ f x₂ S₂ fr => ?_
      obtain ⟨z, rfl, vz⟩ := fr
      exact p₁ ρ₂ h₂ tk₂ _ x₂ S₂ ⟨z, rfl, vz⟩
    · cases h
  · rename_i m₁ h1
    cases h
    refine while_step (H.tst _ _ _ _ _ _ h1 _ _ _ _ _ _ _ _ _ _ _ _ am M₀ S wt fun ρ₁ h₁ tk₁ x₁ s₁ => ?_)
    rw [if_neg Bool.false_ne_true]
    exact p ρ₁ h₁ tk₁ .next (.ext x₁) (S.ext x₁ s₁) rfl
  · cases h
theorem its_live {env : Env} {h h' : Heap} {ρ' : List Addr} {it : It} {its : List Addr} (R : ItR h' ρ' it its) : ∀ a ∈ its, ∃ o, h'.get? a = some o := R.live

/-- one turn of a walk: the next item, taken by the target -/
theorem turn_sound {prog : Program} {w : World} {A : Around} {E' : Value → Shared → Prop} {s : Shared} {hb : Heap} {env : Env} {sc : Scope} {ns : List Str} {e e' : E} {ρ its : List Addr} {m : M} {it it' : It} {a : Addr} {tg : Tg} {i : Item} {Q : Unit → Shared → Prop} {Q0 : Shared → Prop}
    (S : St hb env sc ns e ρ m s.heap) (R : ItR s.heap ρ it its) (O : Off env ρ its) (hits : ∀ b ∈ its, hb.get? b = none) (ha : its.head? = some a) (hn : it.next m.t = some (some (i, it'))) (ht : take e tg i = some e') (hf : env.func.isSome = true ∨ tgl e tg = true)
    (hh : A.handled = none) (q : Turn hb env sc ns e' ρ m it' its s Q) :
    wpAny (model prog w) A (pyNext (.ref a)) (fun r s₁ => match r with
      | none => Q0 s₁
      | some v => wpAny (model prog w) A (letOwnedTupleGo (tg.back ns) (.ref a) v) (fun _ s₂ => wpAny (model prog w) A (assign (tg.back ns) env v) Q E' s₂) E' s₁) E' s := by
  cases tg with
  | one k p =>
    refine wpAny_mono (turn_one S R O hits ha hn ht hf q) (fun r s₁ hr => ?_) fun _ _ x => x
    cases r with
    | none => exact hr.elim
    | some v =>
      have e1 : letOwnedTupleGo ((Tg.one k p).back ns) (.ref a) v = pure () := rfl
      show wpAny _ A (letOwnedTupleGo ((Tg.one k p).back ns) (.ref a) v) _ _ s₁
      rw [e1]
      exact wpAny_pure (wpAny_assign_Name hr)
  | two k₁ p₁ k₂ p₂ c p =>
    refine wpAny_mono (turn_two S R O hits ha hn ht hf hh q) (fun r s₁ hr => ?_) fun _ _ x => x
    cases r with
    | none => exact hr.elim
    | some v => exact hr
theorem lop_step (H : RecOk P G r) : ∀ d e m tg it ss fl e' m', lopStep r d e m tg it ss = some (fl, e', m') → LoOk P G d e m tg it ss fl e' m' := by
  intro d e m tg it ss fl e' m' h prog w A s hb env sc ns ρ its a R am M₀ S hsc fn wf Ir O hits ha p
  unfold lopStep at h
  split at h
  · rename_i i it' hn
    split at h
    · rename_i e₁ ht
      refine for_step (turn_sound S Ir O hits ha hn ht (.inl fn) am.hh fun h₁ tk₁ S₁ Ir₁ k₁ => ?_)
      have x₁ : ExtX env its ρ s.heap ρ h₁ := ⟨⟨[], (List.append_nil _).symm, fun _ q => nomatch q⟩, fun b o q _ no nx => k₁ b o nx no q⟩
      split at h
      · rename_i e₂ m₂ h2
        refine H.exs _ _ _ _ _ _ _ h2 _ _ _ _ { s with heap := h₁, toks := tk₁ } _ _ _ _ _ _ am M₀ S₁ hsc fn wf fun ρ₂ h₂ tk₂ f x₂ S₂ fr => ?_
        cases fr
        have xs₂ : ExtS env ρ h₁ ρ₂ h₂ := ⟨x₂.pre, fun b o q nb no => x₂.keep b o q nb no fun z => nomatch z⟩
        have Ir₂ := Ir₁.ext O xs₂
        have O₂ := O.ext xs₂ Ir₁.live
        refine H.lop _ _ _ _ _ _ _ _ _ h _ _ _ { s with heap := h₂, toks := tk₂ } _ _ _ _ _ _ _ _ am M₀ S₂ hsc fn wf Ir₂ O₂ hits ha fun ρ₃ h₃ tk₃ f x₃ S₃ fr => ?_
        have x₁₂ := x₁.trans (liveX S₁ x₁ Ir₁.live) (xs₂.toX (X := its))
        exact p ρ₃ h₃ tk₃ f (x₁₂.trans (liveX S₂ x₁₂ Ir₂.live) x₃) S₃ fr
      · rename_i v e₂ m₂ h2
        cases h
        refine H.exs _ _ _ _ _ _ _ h2 _ _ _ _ { s with heap := h₁, toks := tk₁ } _ _ _ _ _ _ am M₀ S₁ hsc fn wf fun ρ₂ h₂ tk₂ f x₂ S₂ fr => ?_
        obtain ⟨z, rfl, vz⟩ := fr
        have xs₂ : ExtS env ρ h₁ ρ₂ h₂ := ⟨x₂.pre, fun b o q nb no => x₂.keep b o q nb no fun z => nomatch z⟩
        exact p ρ₂ h₂ tk₂ _ (x₁.trans (liveX S₁ x₁ Ir₁.live) (xs₂.toX (X := its))) S₂ ⟨z, rfl, vz⟩
      · cases h
    · cases h
  · rename_i hn
    cases h
    refine for_step (end_sound S.sto Ir ha am.hh hn fun h₁ k₁ => ?_)
    have x₁ : ExtX env its ρ s.heap ρ h₁ := ⟨⟨[], (List.append_nil _).symm, fun _ q => nomatch q⟩, fun b o q _ no nx => k₁ b o nx q⟩
    exact p ρ h₁ s.toks .next x₁ (sto_keep' S O hits k₁) rfl
  · cases h
theorem cpr_step (H : RecOk P G r) : ∀ d e m tg it cond elt acc vs m', cprStep r d e m tg it cond elt acc = some (vs, m') → CpOk P G d e m tg it cond elt acc vs m' := by
  intro d e m tg it cond elt acc vs m' h prog w A s hb env sc ns ρ its a D ws n iter scope pos R am M₀ S we wc Ir O hits ha fnn hD hacc Dρ Dits Dnear Dhb p
  unfold cprStep at h
  have liveD : ∀ (h' : Heap) (ws' : List Value) (n' : Nat), h'.get? D = some { cls := .type "list", data := .seq (List.toArray ws') n' } → ∀ {it' : It} {ρ' : List Addr}, ItR h' ρ' it' its → ∀ b ∈ D :: its, ∃ o, h'.get? b = some o := fun h' ws' n' hd it' ρ' R b q => by
    rcases List.mem_cons.mp q with rfl | q
    · exact ⟨_, hd⟩
    · exact R.live b q
  split at h
  · rename_i i it' hn
    split at h
    · rename_i e₁ ht
      split at ht
      · rename_i htl
        refine comp_step (turn_sound S Ir O hits ha hn ht (.inr htl) am.hh fun h₁ tk₁ S₁ Ir₁ k₁ => ?_)
        have x₁ : ExtX env (D :: its) ρ s.heap ρ h₁ := ⟨⟨[], (List.append_nil _).symm, fun _ q => nomatch q⟩, fun b o q _ no nx => k₁ b o (fun z => nx (List.mem_cons_of_mem _ z)) no q⟩
        have D₁ : h₁.get? D = some { cls := .type "list", data := .seq (List.toArray ws) n } := k₁ D _ Dits (fun z => Dnear z.near) hD
        -- the element is appended, then the walk goes on
        have go : ∀ (ρ₂ : List Addr) (h₂ : Heap) (tk₂ : Nat) (m₂ : M), Ext ρ h₁ ρ₂ h₂ → Sto h₂ ρ₂ m₂ → (match r.ev d e₁ m₂ elt with
            | some (v, m) => match few acc.length with
              | true => r.cpr d e₁ m tg it' cond elt (acc ++ [v])
              | false => .none
            | .none => .none) = some (vs, m') →
            wpAny (model prog w) A (eval (back G ns elt) env) (fun x s₄ => wpAny (model prog w) A (call (.builtin "list.append") [.ref D, x]) (fun _ s₅ => codeAny (model prog w) A (.compLoop (.ListComp (back G ns elt) [⟨tg.back ns, iter, backs G ns cond, 0⟩] scope pos) 0 (.ref a) (.ref D) env) R s₅)
              (notedBy (model prog w) A env fun e s' => R (.error e) s') s₄) (notedBy (model prog w) A env fun e s' => R (.error e) s') { s with heap := h₂, toks := tk₂ } := by
          intro ρ₂ h₂ tk₂ m₂ x₂ s₂ h
          split at h
          · rename_i v m₃ h3
            split at h
            · rename_i hf
              have S₂ := S₁.ext x₂ s₂
              refine H.ev _ _ _ _ _ _ h3 _ _ _ _ { s with heap := h₂, toks := tk₂ } _ _ _ _ _ _ _ am M₀ S₂ we fun ρ₃ h₃ tk₃ y x₃ s₃ v₃ => ?_
              have S₃ := S₂.ext x₃ s₃
              have x₁₃ := x₂.trans (x₂.sub s₂) x₃
              have D₃ : h₃.get? D = some { cls := .type "list", data := .seq (List.toArray ws) n } := x₁₃.keep D _ D₁ Dρ
              have Dρ₃ : D ∉ ρ₃ := fun z => by
                obtain ⟨ν, rfl, hν⟩ := x₁₃.pre
                rcases List.mem_append.mp z with z | z
                · exact Dρ z
                · rw [hν D z] at D₁; cases D₁
              have z' := few_le hf
              rw [hacc.length] at z'
              refine wpAny_list_append_plain (s := { s with heap := h₃, toks := tk₃ }) ⟨n, D₃⟩ (fun h₄ hp₄ hs₄ => ?_) (by simp only [List.size_toArray]; rw [sizeLine_eq]; omega)
              obtain ⟨n', ho₄⟩ := hp₄
              rw [show ws.toArray.push y = (ws ++ [y]).toArray by simp] at ho₄
              have kp₄ : ∀ b o, b ∉ [D] → h₃.get? b = some o → h₄.get? b = some o := fun b o nb q => (hs₄.2 b fun z => nb (by rw [z]; exact List.mem_cons_self)).trans q
              have O₃ : Off env ρ₃ [D] := fun b q => by rw [List.mem_singleton.mp q]; exact ⟨Dρ₃, Dnear⟩
              have S₄ := sto_keep' S₃ O₃ (fun b q => by rw [List.mem_singleton.mp q]; exact Dhb) kp₄
              have Ir₃ := Ir₁.ext O x₁₃.toS
              have Oi₃ := O.ext x₁₃.toS Ir₁.live
              have Ir₄ : ItR h₄ ρ₃ it' its := by
                have := Ir₃.keep (ν := []) (h' := h₄) fun b q o z => kp₄ b o (fun y => Dits (List.mem_singleton.mp y ▸ q)) z
                rwa [List.append_nil] at this
              refine H.cpr _ _ _ _ _ _ _ _ _ _ h _ _ _ { s with heap := h₄, toks := tk₃ } _ _ _ _ _ _ _ _ (ws ++ [y]) n' _ _ _ _ am M₀ S₄ we wc Ir₄ Oi₃ hits ha fnn ho₄ ((x₁₃.vrs hacc).append (.cons v₃ .nil)) Dρ₃ Dits Dnear Dhb fun ρ₅ h₅ tk₅ ws' n'' e' x₅ S₅ hD₅ v₅ nD => ?_
              have x₁' : ExtX env (D :: its) ρ s.heap ρ₃ h₃ := x₁.trans (liveX S₁ x₁ (liveD h₁ ws n D₁ Ir₁)) (.ext x₁₃)
              have x₄ : ExtX env (D :: its) ρ₃ h₃ ρ₃ h₄ := ⟨⟨[], (List.append_nil _).symm, fun _ q => nomatch q⟩, fun b o q _ _ nx => kp₄ b o (fun z => nx (by rw [List.mem_singleton.mp z]; exact List.mem_cons_self)) q⟩
              have x₁₄ := x₁'.trans (liveX S₃ x₁' (liveD h₃ ws n D₃ Ir₃)) x₄
              exact p ρ₅ h₅ tk₅ ws' n'' e' (x₁₄.trans (liveX S₄ x₁₄ (liveD h₄ _ _ ho₄ Ir₄)) x₅) S₅ hD₅ v₅ nD
            · cases h
          · cases h
        split at h
        · refine wpAny_tests_nil ?_
          rw [if_pos rfl]
          exact go ρ h₁ tk₁ m (.refl ..) S₁.sto h
        · rename_i c
          simp only [wfXs, Bool.and_eq_true] at wc
          split at h
          · rename_i m₂ h2
            refine wpAny_tests_one (H.tst _ _ _ _ _ _ h2 _ _ _ _ { s with heap := h₁, toks := tk₁ } _ _ _ _ _ _ _ am M₀ S₁ wc.1 fun ρ₂ h₂ tk₂ x₂ s₂ => ?_)
            rw [if_pos rfl]
            exact go ρ₂ h₂ tk₂ m₂ x₂ s₂ h
          · rename_i m₂ h2
            refine wpAny_tests_one (H.tst _ _ _ _ _ _ h2 _ _ _ _ { s with heap := h₁, toks := tk₁ } _ _ _ _ _ _ _ am M₀ S₁ wc.1 fun ρ₂ h₂ tk₂ x₂ s₂ => ?_)
            rw [if_neg Bool.false_ne_true]
            have S₂ := S₁.ext x₂ s₂
            have D₂ : h₂.get? D = some { cls := .type "list", data := .seq (List.toArray ws) n } := x₂.keep D _ D₁ Dρ
            have Dρ₂ : D ∉ ρ₂ := fun z => by
              obtain ⟨ν, rfl, hν⟩ := x₂.pre
              rcases List.mem_append.mp z with z | z
              · exact Dρ z
              · rw [hν D z] at D₁; cases D₁
            have Ir₂ := Ir₁.ext O x₂.toS
            have O₂ := O.ext x₂.toS Ir₁.live
            refine H.cpr _ _ _ _ _ _ _ _ _ _ h _ _ _ { s with heap := h₂, toks := tk₂ } _ _ _ _ _ _ _ _ ws n _ _ _ _ am M₀ S₂ we (by simp only [wfXs, Bool.and_eq_true]; exact wc) Ir₂ O₂ hits ha fnn D₂ (x₂.vrs hacc) Dρ₂ Dits Dnear Dhb fun ρ₅ h₅ tk₅ ws' n'' e' x₅ S₅ hD₅ v₅ nD => ?_
            have x₁' : ExtX env (D :: its) ρ s.heap ρ₂ h₂ := x₁.trans (liveX S₁ x₁ (liveD h₁ ws n D₁ Ir₁)) (.ext x₂)
            exact p ρ₅ h₅ tk₅ ws' n'' e' (x₁'.trans (liveX S₂ x₁' (liveD h₂ ws n D₂ Ir₂)) x₅) S₅ hD₅ v₅ nD
          · cases h
        · cases h
      · cases ht
    · cases h
  · rename_i hn
    cases h
    refine comp_step (end_sound S.sto Ir ha am.hh hn fun h₁ k₁ => ?_)
    have x₁ : ExtX env (D :: its) ρ s.heap ρ h₁ := ⟨⟨[], (List.append_nil _).symm, fun _ q => nomatch q⟩, fun b o q _ no nx => k₁ b o (fun z => nx (List.mem_cons_of_mem _ z)) q⟩
    exact p ρ h₁ s.toks ws n e x₁ (sto_keep' S O hits k₁) (k₁ D _ Dits hD) hacc Dρ
  · cases h
theorem recOk_go (P : List FnE) (G : List Str) : ∀ n, RecOk P G (go P n)
  | 0 => recOk_bot P G
  | n + 1 => ⟨ev_step (recOk_go P G n), tst_step (recOk_go P G n), exs_step (recOk_go P G n), whl_step (recOk_go P G n), lop_step (recOk_go P G n), cpr_step (recOk_go P G n)⟩
end
end Mine

namespace Mine
open PySem PySem.W PyProof.Rows

def arOk (a : Arguments) : Bool := a.posonlyargs.isEmpty && a.vararg.isNone && a.kwonlyargs.isEmpty && a.kw_defaults.isEmpty && a.kwarg.isNone && a.defaults.isEmpty &&
  (match a.args with
    | [_] => true
    | [x, y] => !(y.arg == x.arg)
    | [x, y, z] => !(y.arg == x.arg) && !(z.arg == x.arg) && !(z.arg == y.arg)
    | _ => false)
theorem bind_ok {name : Str} {body : List Stmt} {scope : Scope} {pm code doc : Value} : ∀ {a : Arguments}, arOk a = true → ∀ args : List Value, args.length = a.args.length →
    bindArgs (Calls.docDef name a body scope pm code doc) ⟨args, []⟩ = pure ((a.args.map (·.arg)).zip args) := by
  rintro ⟨po, as, va, ko, kd, kw, ds⟩ ok args hl
  simp only [arOk, Bool.and_eq_true, List.isEmpty_iff, Option.isNone_iff_eq_none] at ok
  obtain ⟨⟨⟨⟨⟨⟨rfl, rfl⟩, rfl⟩, rfl⟩, rfl⟩, rfl⟩, h⟩ := ok
  match as, args, hl, h with
  | [x], [u], _, _ =>
    simp [bindArgs, Calls.docDef, seqItems?]
    rfl
  | [x, y], [u, v], _, h =>
    have h1 : (y.arg == x.arg) = false := by simpa using h
    simp [bindArgs, Calls.docDef, seqItems?, List.lookup, h1]
    rfl
  | [x, y, z], [u, v, t], _, h =>
    simp only [Bool.and_eq_true, Bool.not_eq_true'] at h
    simp [bindArgs, Calls.docDef, seqItems?, List.lookup, h.1.1, h.1.2, h.2]
    rfl

/-- what the text says of each def -/
def Df.ok (d : Df) : Bool := arOk d.args && (d.scope.kind == .function) && !d.scope.isCoroutine && !d.scope.isGenerator && decide d.names.Nodup &&
  d.names.all (fun x => !(x == ("__debug__" : Str)) && (d.scope.names.lookup x == some .local || d.scope.names.lookup x == some .cell)) && wfSs G d.names d.scope d.fe.body
theorem okD : D.all Df.ok = true := by decide +kernel
theorem bkD : (D.map fun d => backSs G d.names d.fe.body) = D.map (·.body) := by with_unfolding_all exact (Eq.refl (D.map (·.body)))

def toDf (r : DefRec) : Df := ⟨r.name, r.params, r.body, r.scope⟩
def freeOk (q : Program) (loose : List Str) : Bool := (["len", "max", "abs", "int", "list", "sum", "range", "enumerate", "reversed"] : List Str).all fun x =>
  !startupNames.contains x && !loose.contains x && !((recsOf q).map (·.name)).contains x && !((litsOf q).map (·.1)).contains x && !((clssOf q loose).map (·.name)).contains x

theorem fn_of_top {q : Program} {loose : List Str} {mean : ExcName → Option Value} {mg mb : Str → Option Value} {h : Heap} (T : Top q loose mean mg mb h) (e : (recsOf q).map toDf = D) {i : Nat} {d : Df} (hd : D[i]? = some d) :
    ∃ a o fd, FnOk G h (nth G i) d.fe mg a o fd d.names ∧ fd.scope = d.scope := by
  have hm : d ∈ D := List.mem_of_getElem? hd
  have ok := List.all_eq_true.mp okD d hm
  have hb : backSs G d.names d.fe.body = d.body := List.map_inj_left.mp bkD d hm
  have hn : nth G i = d.name := by
    unfold nth G
    rw [List.getD_eq_getElem?_getD, List.getElem?_map, hd]; rfl
  rw [← e] at hm
  obtain ⟨r, hr, rfl⟩ := List.mem_map.mp hm
  obtain ⟨a, o, pm, cd, doc, h1, h2, h3, h4⟩ := T.fn r hr
  simp only [Df.ok, Bool.and_eq_true, Bool.not_eq_true', decide_eq_true_eq, beq_iff_eq, List.all_eq_true, Bool.or_eq_true] at ok
  obtain ⟨⟨⟨⟨⟨⟨k1, k2⟩, k3⟩, k4⟩, k5⟩, k6⟩, k7⟩ := ok
  refine ⟨a, o, Calls.docDef r.name r.params r.body r.scope pm cd doc, ?_, rfl⟩
  exact {
    glob := by rw [hn]; exact h1
    get := h2
    data := h3
    body := congrArg FuncBody.stmts hb.symm
    kind := k2
    coro := k3
    gen := k4
    gl := rfl
    clo := rfl
    bi := rfl
    code := h4
    bind := fun args hl => by
      have : (toDf r).names.take (toDf r).fe.np = r.params.args.map (·.arg) := by
        show List.take ((toDf r).params.length) ((toDf r).params ++ _) = _
        rw [List.take_left' rfl]; rfl
      rw [this]
      exact bind_ok k1 args (hl.trans (by show ((toDf r).params).length = _; simp [Df.params, toDf]))
    nd := k5
    dbg := fun x hx => (k6 x hx).1
    cells := rfl
    kinds := fun x hx => (k6 x hx).2
    np := by
      show ((toDf r).params).length ≤ ((toDf r).params ++ _).length
      rw [List.length_append]; omega
    wf := k7 }
theorem mod_of_top {q : Program} {loose : List Str} {mean : ExcName → Option Value} {mg mb : Str → Option Value} {h : Heap} (T : Top q loose mean mg mb h)
    (e : (recsOf q).map toDf = D) (f : freeOk q loose = true) : Mod P G h where
  nolim := T.nolimit
  names := by
    have gone : ∀ x : Str, x ∈ (["len", "max", "abs", "int", "list", "sum", "range", "enumerate", "reversed"] : List Str) → mg x = none := fun x hx => by
      have z := List.all_eq_true.mp f x hx
      simp only [Bool.and_eq_true, Bool.not_eq_true', List.contains_eq_mem, decide_eq_false_iff_not] at z
      exact T.free x z.1.1.1.1 z.1.1.1.2 z.1.1.2 z.1.2 z.2
    refine ⟨mg, mb, T.g, T.b, fun i fe hi => ?_, fun b => ?_, ⟨gone _ (by decide), (T.builtins _ (by decide)).trans rfl⟩, ⟨gone _ (by decide), (T.builtins _ (by decide)).trans rfl⟩, ⟨gone _ (by decide), (T.builtins _ (by decide)).trans rfl⟩⟩
    · unfold P at hi
      rw [List.getElem?_map, Option.map_eq_some_iff] at hi
      obtain ⟨d, hd, rfl⟩ := hi
      obtain ⟨a, o, fd, F, _⟩ := fn_of_top T e hd
      exact ⟨a, o, fd, _, F⟩
    · cases b <;> exact ⟨gone _ (by decide), (T.builtins _ (by decide)).trans rfl⟩
end Mine

namespace Mine
open PySem PySem.W PyProof.Rows

def lawD : Df := match D[45]? with
  | some d => d
  | none => ⟨"", { posonlyargs := [], args := [], vararg := none, kwonlyargs := [], kw_defaults := [], kwarg := none, defaults := [] }, [], { kind := .module, names := [], isGenerator := false, isCoroutine := false }⟩
theorem lawAt : D[45]? = some lawD := by kernel_rfl

/-- statements in a row, each to its end -/
def run (r : Rec) (d : Nat) : E → M → List S → Option (E × M)
  | e, m, [] => some (e, m)
  | e, m, s :: ss => match exStep r d e m s with
    | some (.next, e, m) => run r d e m ss
    | _ => .none
/-- what is kept of the names: ints, and one list of the store -/
def pruneV (b : Bool) (k0 : Option Nat) : Option V → Option V
  | some (.int i) => match b with
    | true => some (.int i)
    | false => .none
  | some (.ref k) => match k0 with
    | some k' => match Nat.beq k k' with
      | true => some (.ref 0)
      | false => .none
    | .none => .none
  | _ => .none
def prune (ks : List Nat) (k0 : Option Nat) : Nat → E → E
  | _, [] => []
  | j, p :: e => (p.1, pruneV (ks.any (Nat.beq j)) k0 p.2) :: prune ks k0 (j + 1) e
def M0 : M := ⟨.nil, 0⟩
def MW (l : List V) : M := (M0.new (.list l)).2
def E0 : E := List.replicate 10 (false, .none)
def EW (c i p n : Int) (v : Option V) : E := [(false, .none), (false, .none), (false, some (.int c)), (false, some (.int i)), (false, some (.int p)), (false, some (.int n)), (false, v), (false, .none), (false, .none), (false, .none)]
def E2 (p n : Int) : E := [(false, .none), (false, .none), (false, .none), (false, .none), (false, some (.int p)), (false, some (.int n)), (false, .none), (false, .none), (false, .none), (false, .none)]
def W2 : List V := [.int 2, .int 0, .int (-4), .int 0, .int 1]
def W3 : List V := [.int 2, .int 0, .int (-16), .int 0, .int 20, .int 0, .int (-8), .int 0, .int 1]
def bodyA : List S := (lawD.fe.body.drop 3).take 2
def bodyB : List S := (lawD.fe.body.drop 5).take 3
def bodyC : List S := (lawD.fe.body.drop 8).take 3
def bodyD : List S := lawD.fe.body.drop 11
def cutW (x : Option (E × M)) : Option (E × List V) := match x with
  | some (e, m) => match e.get 6 with
    | some (.ref k) => match m.t.get k with
      | some (.list l) => some (prune [2, 3, 4, 5] (some k) 0 e, l)
      | _ => .none
    | _ => .none
  | .none => .none
def cutE (ks : List Nat) (x : Option (E × M)) : Option E := match x with
  | some (e, _) => some (prune ks .none 0 e)
  | .none => .none
def R0 : Rec := go P 3000
def R1 : Rec := go P 3001
def yes (x : Option (Fl × E × M)) : Bool := match x with
  | some (.ret (.bool b), _, _) => b
  | _ => false
def last (p n : Int) : Bool := yes (R0.exs 20 (E2 p n) M0 bodyD)
theorem a2 (c p : Int) : cutW (run R0 20 (EW c 1 p 2 .none) M0 bodyA) = some (EW c 1 p 2 (some (.ref 0)), W2) := by kernel_rfl
theorem a3 (c p : Int) : cutW (run R0 20 (EW c 2 p 3 .none) M0 bodyA) = some (EW c 2 p 3 (some (.ref 0)), W3) := by kernel_rfl
theorem c2 (c p : Int) : cutE [4, 5] (run R0 20 (EW c 1 p 2 (some (.ref 0))) (MW W2) bodyC) = some (E2 p 2) := by kernel_rfl
theorem c3 (c p : Int) : cutE [4, 5] (run R0 20 (EW c 2 p 3 (some (.ref 0))) (MW W3) bodyC) = some (E2 p 3) := by kernel_rfl
def cB2 (c p : Int) : Option (E × List V) := cutW (run R0 20 (EW c 1 p 2 (some (.ref 0))) (MW W2) bodyB)
def cB3 (c p : Int) : Option (E × List V) := cutW (run R0 20 (EW c 2 p 3 (some (.ref 0))) (MW W3) bodyB)
def oB2 (c p : Int) : Option (E × List V) := some (EW c 1 p 2 (some (.ref 0)), W2)
def oB3 (c p : Int) : Option (E × List V) := some (EW c 2 p 3 (some (.ref 0)), W3)
theorem b2_m5 (p : Int) : cB2 (-5) p = oB2 (-5) p := by kernel_rfl
theorem b2_m4 (p : Int) : cB2 (-4) p = oB2 (-4) p := by kernel_rfl
theorem b2_m3 (p : Int) : cB2 (-3) p = oB2 (-3) p := by kernel_rfl
theorem b2_m2 (p : Int) : cB2 (-2) p = oB2 (-2) p := by kernel_rfl
theorem b2_m1 (p : Int) : cB2 (-1) p = oB2 (-1) p := by kernel_rfl
theorem b2_0 (p : Int) : cB2 (0) p = oB2 (0) p := by kernel_rfl
theorem b2_1 (p : Int) : cB2 (1) p = oB2 (1) p := by kernel_rfl
theorem b2_2 (p : Int) : cB2 (2) p = oB2 (2) p := by kernel_rfl
theorem b2_3 (p : Int) : cB2 (3) p = oB2 (3) p := by kernel_rfl
theorem b2_4 (p : Int) : cB2 (4) p = oB2 (4) p := by kernel_rfl
theorem b2_5 (p : Int) : cB2 (5) p = oB2 (5) p := by kernel_rfl
theorem b2 (c p : Int) (l : -5 ≤ c) (u : c ≤ 5) : cB2 c p = oB2 c p := by
  have h : c = -5 ∨ c = -4 ∨ c = -3 ∨ c = -2 ∨ c = -1 ∨ c = 0 ∨ c = 1 ∨ c = 2 ∨ c = 3 ∨ c = 4 ∨ c = 5 := by omega
  rcases h with rfl | rfl | rfl | rfl | rfl | rfl | rfl | rfl | rfl | rfl | rfl
  · exact b2_m5 p
  · exact b2_m4 p
  · exact b2_m3 p
  · exact b2_m2 p
  · exact b2_m1 p
  · exact b2_0 p
  · exact b2_1 p
  · exact b2_2 p
  · exact b2_3 p
  · exact b2_4 p
  · exact b2_5 p
theorem b3_m5 (p : Int) : cB3 (-5) p = oB3 (-5) p := by kernel_rfl
theorem b3_m4 (p : Int) : cB3 (-4) p = oB3 (-4) p := by kernel_rfl
theorem b3_m3 (p : Int) : cB3 (-3) p = oB3 (-3) p := by kernel_rfl
theorem b3_m2 (p : Int) : cB3 (-2) p = oB3 (-2) p := by kernel_rfl
theorem b3_m1 (p : Int) : cB3 (-1) p = oB3 (-1) p := by kernel_rfl
theorem b3_0 (p : Int) : cB3 (0) p = oB3 (0) p := by kernel_rfl
theorem b3_1 (p : Int) : cB3 (1) p = oB3 (1) p := by kernel_rfl
theorem b3_2 (p : Int) : cB3 (2) p = oB3 (2) p := by kernel_rfl
theorem b3_3 (p : Int) : cB3 (3) p = oB3 (3) p := by kernel_rfl
theorem b3_4 (p : Int) : cB3 (4) p = oB3 (4) p := by kernel_rfl
theorem b3_5 (p : Int) : cB3 (5) p = oB3 (5) p := by kernel_rfl
theorem b3 (c p : Int) (l : -5 ≤ c) (u : c ≤ 5) : cB3 c p = oB3 c p := by
  have h : c = -5 ∨ c = -4 ∨ c = -3 ∨ c = -2 ∨ c = -1 ∨ c = 0 ∨ c = 1 ∨ c = 2 ∨ c = 3 ∨ c = 4 ∨ c = 5 := by omega
  rcases h with rfl | rfl | rfl | rfl | rfl | rfl | rfl | rfl | rfl | rfl | rfl
  · exact b3_m5 p
  · exact b3_m4 p
  · exact b3_m3 p
  · exact b3_m2 p
  · exact b3_m1 p
  · exact b3_0 p
  · exact b3_1 p
  · exact b3_2 p
  · exact b3_3 p
  · exact b3_4 p
  · exact b3_5 p
theorem l3_2 : last 3 2 = true := by kernel_rfl
theorem l3_3 : last 3 3 = true := by kernel_rfl
theorem l5_2 : last 5 2 = true := by kernel_rfl
theorem l5_3 : last 5 3 = true := by kernel_rfl
theorem l7_2 : last 7 2 = true := by kernel_rfl
theorem l7_3 : last 7 3 = true := by kernel_rfl
theorem l11_2 : last 11 2 = true := by kernel_rfl
theorem l11_3 : last 11 3 = true := by kernel_rfl
theorem l13_2 : last 13 2 = true := by kernel_rfl
theorem l13_3 : last 13 3 = true := by kernel_rfl
theorem lastAll (p n : Int) (hp : p = 3 ∨ p = 5 ∨ p = 7 ∨ p = 11 ∨ p = 13) (hn : n = 2 ∨ n = 3) : last p n = true := by
  rcases hp with rfl | rfl | rfl | rfl | rfl <;> rcases hn with rfl | rfl
  · exact l3_2
  · exact l3_3
  · exact l5_2
  · exact l5_3
  · exact l7_2
  · exact l7_3
  · exact l11_2
  · exact l11_3
  · exact l13_2
  · exact l13_3

def sAt (k : Nat) : S := match lawD.fe.body.drop k with
  | s :: _ => s
  | [] => .expr .bad ⟨0, 0, 0, 0⟩
theorem bodyEq : lawD.fe.body = sAt 0 :: sAt 1 :: sAt 2 :: (bodyA ++ (bodyB ++ (bodyC ++ bodyD))) := by kernel_rfl
theorem celEq : lawD.fe.cells.zip (([] : List V).map some ++ List.replicate (lawD.fe.cells.length - ([] : List V).length) .none) = E0 := by kernel_rfl
theorem npEq : lawD.fe.np = 1 := by kernel_rfl
theorem nmEq : nth G 45 = "law" := by kernel_rfl
theorem n0Eq : lawD.names.head? = some "script" := by kernel_rfl
theorem nth0Eq : nth lawD.names 0 = "script" := by kernel_rfl
theorem kindEq : lawD.scope.names.lookup ("script" : Str) = some NameKind.local := by kernel_rfl
end Mine

namespace Mine
open PySem PySem.W PyProof.Rows

section
variable {P : List FnE} {G : List Str} {r : Rec} {prog : Program} {w : World} {A : Around} {E' : Value → Shared → Prop} {s : Shared} {hb : Heap} {env : Env} {sc : Scope} {ns : List Str} {e e' : E} {ρ : List Addr} {m m' : M} {d : Nat} {h : Heap}

theorem wfSs_append : ∀ {xs ys : List S}, wfSs G ns sc (xs ++ ys) = true → wfSs G ns sc xs = true ∧ wfSs G ns sc ys = true
  | [], _, h => ⟨rfl, h⟩
  | x :: xs, ys, h => by
    rw [List.cons_append, wfSs, Bool.and_eq_true] at h
    have := wfSs_append h.2
    exact ⟨by rw [wfSs, Bool.and_eq_true]; exact ⟨h.1, this.1⟩, this.2⟩
theorem run_sound (H : RecOk P G r) (am : Amb A d) (M₀ : Mod P G hb) {Q : Flow → Shared → Prop} : ∀ {ss rest : List S} {e : E} {m : M} {ρ : List Addr} {s : Shared}, run r d e m ss = some (e', m') → St hb env sc ns e ρ m s.heap → env.scope = sc → env.func.isSome = true → wfSs G ns sc ss = true →
    (∀ ρ' h' tk, St hb env sc ns e' ρ' m' h' → wpAny (model prog w) A (execs (backSs G ns rest) env) Q E' { s with heap := h', toks := tk }) → wpAny (model prog w) A (execs (backSs G ns (ss ++ rest)) env) Q E' s
  | [], rest, e, m, ρ, s, h, S, hsc, fn, wf, k => by cases h; exact k ρ s.heap s.toks S
  | x :: ss, rest, e, m, ρ, s, h, S, hsc, fn, wf, k => by
    unfold run at h
    rw [wfSs, Bool.and_eq_true] at wf
    show wpAny _ A (execs (backS G ns x :: backSs G ns (ss ++ rest)) env) Q E' s
    split at h
    · rename_i e₁ m₁ h1
      refine wpAny_execs_cons (ex_step H _ _ _ _ _ _ _ h1 _ _ _ _ _ _ _ _ _ _ _ am M₀ S hsc fn wf.1 fun ρ₁ h₁ tk₁ f x₁ S₁ fr => ?_)
      cases fr
      exact run_sound H am M₀ (s := { s with heap := h₁, toks := tk₁ }) h S₁ hsc fn wf.2 fun ρ' h' tk S' => k ρ' h' tk S'
    · cases h

theorem prune_slots {ks : List Nat} {k0 : Option Nat} {mm : Str → Option Value} {ρ' : List Addr} (h0 : ∀ k a, k0 = some k → ρ[k]? = some a → ρ'[0]? = some a) : ∀ {ns : List Str} {e : E} (j : Nat), Slots env h ρ mm ns e → Slots env h ρ' mm ns (prune ks k0 j e)
  | _, _, j, .nil => .nil
  | x :: _, (b, ov) :: _, j, .cons a r => by
    refine .cons ?_ (prune_slots h0 (j + 1) r)
    have key : ∀ v' : V, pruneV (ks.any (Nat.beq j)) k0 ov = some v' → ∃ v, ov = some v ∧ ∀ w, VR ρ v w → VR ρ' v' w := by
      intro v' hv
      unfold pruneV at hv
      split at hv
      · split at hv
        · cases hv; exact ⟨_, rfl, fun _ q => q⟩
        · cases hv
      · split at hv
        · split at hv
          · rename_i k k' hk
            cases hv
            refine ⟨_, rfl, fun w q => ?_⟩
            obtain ⟨a, e1, e2⟩ := q
            have := Nat.eq_of_beq_eq_true hk
            subst this
            exact ⟨a, h0 _ _ rfl e1, e2⟩
          · cases hv
        · cases hv
      · cases hv
    match b, a with
    | false, ⟨k, q⟩ => exact ⟨k, fun v' hv => let ⟨v, e1, z⟩ := key v' hv; let ⟨w, e2, vr⟩ := q v e1; ⟨w, e2, z w vr⟩⟩
    | true, ⟨k, c, u, l, ic, q⟩ => exact ⟨k, c, u, l, ic, fun v' hv => let ⟨v, e1, z⟩ := key v' hv; let ⟨w, e2, vr⟩ := q v e1; ⟨w, e2, z w vr⟩⟩
theorem cut0 (S : St hb env sc ns e ρ m h) (ks : List Nat) : St hb env sc ns (prune ks .none 0 e) [] M0 h := by
  obtain ⟨mm, hm, sl⟩ := S.env.vars
  exact ⟨⟨rfl, List.nodup_nil, fun k o q => (by rw [show M0.t.get k = .none from rfl] at q; cases q), fun a q => (nomatch q)⟩, ⟨S.base.keep, fun a q => (nomatch q)⟩, S.own,
    ⟨S.env.fn, S.env.gl, S.env.bi, S.env.gi, S.env.kc, S.env.dbg, S.env.nd, fun q => (nomatch q), fun x c l => ⟨fun q => (nomatch q), (S.env.cel x c l).2⟩, S.env.apart, mm, hm, prune_slots (fun k a q => by cases q) 0 sl⟩⟩
def allInt : List V → Bool
  | [] => true
  | .int _ :: r => allInt r
  | _ => false
theorem ints_vrs {ρ ρ' : List Addr} : ∀ {vs : List V} {ws : List Value}, allInt vs = true → VRs ρ vs ws → VRs ρ' vs ws
  | _, _, _, .nil => .nil
  | .int i :: _, _, h, .cons a r => .cons a (ints_vrs (vs := _) h r)
theorem cut1 (S : St hb env sc ns e ρ m h) (ks : List Nat) {k : Nat} {l : List V} (hl : m.t.get k = some (.list l)) (hi : allInt l = true) : ∃ a, St hb env sc ns (prune ks (some k) 0 e) [a] (MW l) h := by
  obtain ⟨mm, hm, sl⟩ := S.env.vars
  obtain ⟨a, ea, ws, n, ha, hv⟩ := S.sto.at_ k _ hl
  have hin : a ∈ ρ := List.mem_of_getElem? ea
  have S0 := cut0 S []
  refine ⟨a, ?_, ⟨S.base.keep, fun b q => by rw [List.mem_singleton.mp q]; exact S.base.sep a hin⟩, S.own,
    ⟨S.env.fn, S.env.gl, S.env.bi, S.env.gi, S.env.kc, S.env.dbg, S.env.nd, fun q => S.env.loc (by rw [List.mem_singleton.mp q]; exact hin), fun x c l => ⟨fun q => (S.env.cel x c l).1 (by rw [List.mem_singleton.mp q]; exact hin), (S.env.cel x c l).2⟩, S.env.apart, mm, hm,
      prune_slots (fun k' b q z => by cases q; rw [ea] at z; cases z; rfl) 0 sl⟩⟩
  exact S0.sto.add (a := a) (fun q => nomatch q) (o := .list l) ⟨ws, n, ha, ints_vrs hi hv⟩
theorem cutE_sound (H : RecOk P G r) (am : Amb A d) (M₀ : Mod P G hb) {Q : Flow → Shared → Prop} {ss rest : List S} {ks : List Nat} {e₁ : E} (hc : cutE ks (run r d e m ss) = some e₁) (S : St hb env sc ns e ρ m s.heap) (hsc : env.scope = sc) (fn : env.func.isSome = true) (wf : wfSs G ns sc ss = true)
    (k : ∀ h' tk, St hb env sc ns e₁ [] M0 h' → wpAny (model prog w) A (execs (backSs G ns rest) env) Q E' { s with heap := h', toks := tk }) : wpAny (model prog w) A (execs (backSs G ns (ss ++ rest)) env) Q E' s := by
  unfold cutE at hc
  split at hc
  · rename_i e₂ m₂ h1
    cases hc
    exact run_sound H am M₀ h1 S hsc fn wf fun ρ' h' tk S' => k h' tk (cut0 S' ks)
  · cases hc
theorem cutW_sound (H : RecOk P G r) (am : Amb A d) (M₀ : Mod P G hb) {Q : Flow → Shared → Prop} {ss rest : List S} {e₁ : E} {l : List V} (hc : cutW (run r d e m ss) = some (e₁, l)) (hi : allInt l = true) (S : St hb env sc ns e ρ m s.heap) (hsc : env.scope = sc) (fn : env.func.isSome = true) (wf : wfSs G ns sc ss = true)
    (k : ∀ a h' tk, St hb env sc ns e₁ [a] (MW l) h' → wpAny (model prog w) A (execs (backSs G ns rest) env) Q E' { s with heap := h', toks := tk }) : wpAny (model prog w) A (execs (backSs G ns (ss ++ rest)) env) Q E' s := by
  unfold cutW at hc
  split at hc
  · rename_i e₂ m₂ h1
    split at hc
    · split at hc
      · rename_i hl
        cases hc
        exact run_sound H am M₀ h1 S hsc fn wf fun ρ' h' tk S' => by
          obtain ⟨a, S''⟩ := cut1 S' [2, 3, 4, 5] hl hi
          exact k a h' tk S''
      · cases hc
    · cases hc
  · cases hc
end
end Mine

namespace Mine
open PySem PySem.W PyProof.Rows

section
variable {P : List FnE} {G : List Str} {prog : Program} {w : World} {A : Around} {E' : Value → Shared → Prop} {s : Shared}
/-- the call of a def with one argument that the store does not bear -/
theorem enter {x : Str} {fe : FnE} {mg : Str → Option Value} {fa : Addr} {o : Obj} {fd : FuncData} {ns' : List Str} {v : Value} {Q : Value → Shared → Prop} (F : FnOk G s.heap x fe mg fa o fd ns') (hnp : fe.np = 1) (room : A.depth < recursionLimit) (lim : s.heap.NoLimit)
    (k : ∀ (env' : Env) (h₂ : Heap) (tk₂ : Nat) (mm : Str → Option Value) (E'' : Value → Shared → Prop), St s.heap env' fd.scope ns' (fe.cells.zip (([] : List V).map some ++ List.replicate (fe.cells.length - ([] : List V).length) .none)) [] M0 h₂ →
      env'.scope = fd.scope → env'.func.isSome = true → h₂.Ns env'.locals mm → (∀ y, ns'.head? = some y → fd.scope.names.lookup y = some .local → mm y = some v) →
      wpAny (model prog w) (A.deeper env') (execs (backSs G ns' fe.body) env') (fun f s' => Q (match f with | .ret v => v | _ => .none) s') E'' { s with heap := h₂, toks := tk₂ }) :
    wpAny (model prog w) A (call (.ref fa) [v]) Q E' s := by
  refine wpAny_call (codeAny_call_function room F.get F.data F.coro F.gen F.body F.code ?_)
  rw [F.bind [v] hnp.symm]
  refine wpAny_pure ?_
  rw [F.clo]
  have mem_ns : ∀ x ∈ (ns'.take fe.np).zip [v], x.1 ∈ ns' := fun x hx => List.mem_of_mem_take (List.of_mem_zip hx).1
  refine wpAny_newFunctionEnv_cells F.kind (fun x hx => (F.kinds x.1 (mem_ns x hx)).imp id fun q => ⟨q, cellsFrom_some _ _ _ (.inl q)⟩) fun env' he s' x => ?_
  subst he
  have kp := x.toInCall.keep
  refine ⟨Heap.NoLimit.keeps lim kp, codeAny_func ?_⟩
  obtain ⟨h₂, tk₂, rfl, _⟩ := x.done
  refine k _ h₂ tk₂ _ _ ?_ rfl rfl x.toInCall.ns fun y hy hl => ?_
  · refine ⟨⟨rfl, List.nodup_nil, fun k o q => (by rw [show M0.t.get k = .none from rfl] at q; cases q), fun a q => (nomatch q)⟩, ⟨kp, fun a q => (nomatch q)⟩, fun b q => ?_, ⟨F.kind, F.gl, F.bi, fun _ q => q, fun _ q => q, F.dbg, F.nd, fun q => (nomatch q), fun y c l => ⟨fun q => (nomatch q), ?_, _, x.cell y c l⟩, fun y z c l l' => ?_, _, x.toInCall.ns, ?_⟩⟩
    · cases z : s.heap.get? b with
      | none => rfl
      | some ob =>
        have lt := Heap.lt_size z
        rcases q with rfl | ⟨y, q⟩
        · exact absurd lt (Nat.lt_irrefl _)
        · exact absurd (Nat.lt_trans (x.above y b (mem_of_lookup q)) lt) (Nat.lt_irrefl _)
    · exact Nat.ne_of_gt (x.above y c (mem_of_lookup l))
    · exact name_of_addr x.apart (mem_of_lookup l) (mem_of_lookup l')
    · rw [F.cells]
      refine mkSlots (kf := fun x => fd.scope.names.lookup x == some .cell) (cm := bindC (newEnv fd.scope s.heap.objs.size fd.globals (cellsFrom (s.heap.objs.size + 1) fd.scope.names []) (fd.qualname ++ ".<locals>.") (some fa) fd.code none fd.builtins).kindOf ((ns'.take fe.np).zip [v]) fun _ => none) (fun y q => ?_) (fun y q => ?_) ns' [] [] .nil (Nat.zero_le _) (fun y hy q => ?_) fun y u hy => ?_
      · exact beq_iff_eq.mp q
      · have q' : fd.scope.names.lookup y = some .cell := q
        obtain ⟨c, l⟩ := Option.isSome_iff_exists.mp (cellsFrom_some (x := y) fd.scope.names (s.heap.objs.size + 1) [] (.inl q'))
        exact ⟨c, l, x.cell y c l⟩
      · rcases F.kinds y hy with z | z
        · exact z
        · simp [z] at q
      · rw [List.zip_nil_right] at hy; cases hy
  · have e1 : (ns'.take fe.np).zip [v] = [(y, v)] := by
      rw [hnp]
      cases ns' with
      | nil => cases hy
      | cons a l => cases hy; rfl
    rw [e1]
    exact bindL_at _ _ _ _ (by simp) (List.mem_singleton.mpr rfl) hl
end
end Mine

namespace Mine
open PySem PySem.W PyProof.Rows

section
variable {P : List FnE} {G : List Str} {r : Rec} {prog : Program} {w : World} {A : Around} {E' : Value → Shared → Prop} {s : Shared} {hb : Heap} {env : Env} {sc : Scope} {ns : List Str} {e : E} {d : Nat}
/-- the script's first items, as the source of a walk -/
theorem start_script (S : St hb env sc ns e [] M0 s.heap) {mm : Str → Option Value} (hns : s.heap.Ns env.locals mm) {x : Str} {a : Addr} (hx : mm x = some (.ref a)) (hk : env.kindOf x = some .local) (hd : (x == ("__debug__" : Str)) = false)
    {ws : List Value} {j c0 : Nat} {pv p3 ps pq : Pos} {vs : List V} (hl : s.heap.IsList a (List.toArray ws)) (hv : VRs [] vs (ws.take j)) (hw : ws.length ≤ 63) {K : Value → Shared → Prop} (p : Start [] s (.lst 0 0) (MW vs) K) :
    wpAny (model prog w) A (eval (.Subscript (.Name x pv) (.Slice .none (some (.Constant (.int (Int.ofNat j)) c0 p3)) .none ps) pq) env) (fun y s₁ => wpAny (model prog w) A (pyIter y) K E' s₁) E' s := by
  refine Subscript_ (wpAny_Name (wpAny_loadName_local S.env.fn hk hns hx ?_) hd)
  refine wpAny_Slice (wpAny_pure (wpAny_Constant_int (k := c0) (pos := p3) (wpAny_pure ?_)))
  have hl' := hl.push { cls := .type "slice", data := .fields #[Value.none, .int (Int.ofNat j) s.toks, .none] }
  refine tail_any (s := { s with heap := s.heap.push { cls := .type "slice", data := .fields #[Value.none, .int (Int.ofNat j) s.toks, .none] }, toks := s.toks + 1 }) (T := "list") hl'.typeIs slot_list_getitem.lookup ?_ rfl
  refine wpAny_getItem_list_slice hl' (Heap.IsSliceOf.new ..) .none (.int _ _) .none (by simp) ?_ (by simp only [List.size_toArray]; rw [sizeLine_eq]; omega)
  rw [show (some (Int.ofNat j) : Option Int) = some ((j : Nat) : Int) from rfl, slicePick_upto']
  have kp := push_keep s.heap { cls := .type "slice", data := .fields #[Value.none, .int (Int.ofNat j) s.toks, .none] }
  generalize hh1 : s.heap.push { cls := .type "slice", data := .fields #[Value.none, .int (Int.ofNat j) s.toks, .none] } = h1 at *
  have hb1 : s.heap.get? h1.objs.size = none := by
    cases y : s.heap.get? h1.objs.size with
    | none => rfl
    | some o => have := kp _ _ y; rw [none_size] at this; cases this
  have kp2 := push_keep h1 { cls := .type "list", data := .seq (ws.take j).toArray 0 }
  have g2 : (h1.push { cls := .type "list", data := .seq (ws.take j).toArray 0 }).get? h1.objs.size = some { cls := .type "list", data := .seq (ws.take j).toArray 0 } := Heap.get?_push_size _ rfl
  refine wpAny_pyIter_list (s := { s with heap := h1.push { cls := .type "list", data := .seq (ws.take j).toArray 0 }, toks := s.toks + 1 }) (isList_of g2) ?_
  have kp3 := push_keep (h1.push { cls := .type "list", data := .seq (ws.take j).toArray 0 }) { cls := .type "list_iterator", data := .fields #[.ref h1.objs.size, rawInt 0] }
  have st : Sto (h1.push { cls := .type "list", data := .seq (ws.take j).toArray 0 }) ([] ++ [h1.objs.size]) (MW vs) :=
    Sto.new (h := h1) ⟨rfl, List.nodup_nil, fun k o q => (by rw [show M0.t.get k = .none from rfl] at q; cases q), fun a q => (nomatch q)⟩ (none_size h1) kp2 (o := .list vs) ⟨_, 0, g2, hv⟩
  refine p [h1.objs.size] _ _ [_] _ ⟨⟨[h1.objs.size], rfl, fun b q => by rw [List.mem_singleton.mp q]; exact hb1⟩, fun b o q _ => push_keep _ _ b o (kp2 b o (kp b o q))⟩ (st.keep fun b o _ => push_keep _ _ b o) ⟨h1.objs.size, rfl, _, Heap.get?_push_size _ rfl, rfl, rfl⟩ rfl fun b q => ?_
  rw [List.mem_singleton.mp q]
  have hn : (h1.push { cls := .type "list", data := .seq (ws.take j).toArray 0 }).get? (h1.push { cls := .type "list", data := .seq (ws.take j).toArray 0 }).objs.size = none := none_size _
  refine ⟨fun z => ?_, ?_⟩
  · rw [List.mem_singleton.mp z, g2] at hn; cases hn
  · cases y : s.heap.get? (h1.push { cls := .type "list", data := .seq (ws.take j).toArray 0 }).objs.size with
    | none => rfl
    | some o => have := kp2 _ _ (kp _ _ y); rw [hn] at this; cases this

def isS1 : S → Bool
  | .asg _ _ (.list (.comp _ _ .plain [.upto (.var 0 _) (.int (.ofNat _) _ _) _ _] _ _ _ _ _ _ _ :: _) _) _ => true
  | _ => false
def evalS1 (r : Rec) (d : Nat) (e : E) (pick : Nat → List V) : S → Option (E × M)
  | .asg k _ (.list (.comp elt tg .plain [.upto (.var 0 _) (.int (.ofNat j) _ _) _ _] _ _ cond _ ns' caps _ :: rest) _) _ =>
    match r.cpr d (List.replicate (ns'.length - caps.length) (false, .none) ++ inner e caps) (MW (pick j)) tg (.lst 0 0) cond elt [] with
    | some (us, m₂) => match evs r d e (m₂.new (.list us)).2 rest with
      | some (ws, m₃) => match few (ws.length + 1) with
        | true => match e.set k (m₃.new (.list ((m₂.new (.list us)).1 :: ws))).1 with
          | some e' => some (e', (m₃.new (.list ((m₂.new (.list us)).1 :: ws))).2)
          | .none => .none
        | false => .none
      | .none => .none
    | .none => .none
  | _ => .none
theorem S1_sound (H : RecOk P G r) (am : Amb A d) (M₀ : Mod P G hb) (S : St hb env sc ns e [] M0 s.heap) (fn : env.func.isSome = true) {mm : Str → Option Value} (hns : s.heap.Ns env.locals mm) {a : Addr} (hx : mm (nth ns 0) = some (.ref a)) (hk : env.kindOf (nth ns 0) = some .local)
    (hd : (nth ns 0 == ("__debug__" : Str)) = false) {ws : List Value} {pick : Nat → List V} (hl : s.heap.IsList a (List.toArray ws)) (hv : ∀ j, VRs [] (pick j) (ws.take j)) (hw : ws.length ≤ 63)
    {st : Mine.S} {e' : E} {m' : M} (h : evalS1 r d e pick st = some (e', m')) (wf : wfS G ns sc st = true) {Q : Flow → Shared → Prop} (k : ∀ ρ' h' tk, St hb env sc ns e' ρ' m' h' → Q .next { s with heap := h', toks := tk }) :
    wpAny (model prog w) A (exec (backS G ns st) env) Q E' s := by
  unfold evalS1 at h
  split at h
  · rename_i k' pk elt tg pv j c0 p3 ps pq pf0 ps0 cond sc' ns' caps pos rest ql q
    split at h
    · rename_i us m₂ h1
      split at h
      · rename_i ws' m₃ h2
        split at h
        · rename_i hf
          split at h
          · rename_i e₁ h3
            cases h
            simp only [wfS, wfX, wfXs] at wf
            rw [Bool.and_eq_true] at wf
            have wfc : wfX G true ns sc (.comp elt tg .plain [.upto (.var 0 pv) (.int (.ofNat j) c0 p3) ps pq] pf0 ps0 cond sc' ns' caps pos) = true := wf.1
            show wpAny _ A (exec (.Assign [.Name (nth ns k') pk] (back G ns (.list (.comp elt tg .plain [.upto (.var 0 pv) (.int (.ofNat j) c0 p3) ps pq] pf0 ps0 cond sc' ns' caps pos :: rest) ql)) q) env) Q E' s
            refine wpAny_Assign_Name ?_ (swaps_name G ns env _ _ _ S.env.fn _ (.inl rfl))
            show wpAny _ A (eval (.List (backs G ns (.comp elt tg .plain [.upto (.var 0 pv) (.int (.ofNat j) c0 p3) ps pq] pf0 ps0 cond sc' ns' caps pos :: rest)) ql) env) _ E' s
            refine List_ ?_
            rw [backs, star_back]
            refine Calls.spliced_cons (comp_sound' H am M₀ S (it := .lst 0 0) (m₁ := MW (pick j)) (fun E'' K p => start_script S hns hx hk hd hl (hv j) hw p) h1 wfc fun ρ₁ h₁ tk₁ y x₁ s₁ v₁ => ?_)
            have S₁ := S.ext x₁ s₁
            refine evs_sound H am M₀ (s := { s with heap := h₁, toks := tk₁ }) h2 S₁ wf.2 fun ρ₂ h₂ tk₂ zs x₂ s₂ v₂ => ?_
            have z := few_le hf
            rw [v₂.length] at z
            have S₂ := S₁.ext x₂ s₂
            have v₃ : VRs ρ₂ ((m₂.new (.list us)).1 :: ws') (y :: zs) := .cons (x₂.vr v₁) v₂
            refine wpAny_newObj_type (s := { s with heap := h₂, toks := tk₂ }) ?_ (by show (y :: zs).toArray.size ≤ sizeLine; simp only [List.size_toArray, List.length_cons]; rw [sizeLine_eq]; omega)
            have kp := push_keep h₂ { cls := .type "list", data := .seq (y :: zs).toArray 0 }
            have s₃ : Sto (h₂.push { cls := .type "list", data := .seq (y :: zs).toArray 0 }) (ρ₂ ++ [h₂.objs.size]) (m₃.new (.list ((m₂.new (.list us)).1 :: ws'))).2 :=
              s₂.new (none_size h₂) kp (o := .list _) ⟨_, 0, Heap.get?_push_size _ rfl, v₃⟩
            have S₃ := S₂.ext (Ext.new (none_size h₂) kp) s₃
            refine store_sound (s := { s with heap := h₂.push { cls := .type "list", data := .seq (y :: zs).toArray 0 }, toks := tk₂ }) S₃ h3 (.inl fn) (VR.new s₂ _) fun h₄ tk₄ S₄ k₄ => ?_
            exact k _ h₄ tk₄ S₄
          · cases h
        · cases h
      · cases h
    · cases h
  · cases h

/-- the third statement: an item of a tuple, at an index that is known by a fact alone -/
def evalS3 (P : List FnE) (r : Rec) (d : Nat) (q : Int) (e : E) (m : M) : S → Option (Int × E × M)
  | .tup sw ts _ _ (.tup [.sub xt xd _, xi] _ _) _ => match r.ev d e m xt with
    | some (v1, m1) => match r.ev d e m1 xd with
      | some (.int z, m2) => match subV m2 v1 (.int q) with
        | some u => match (step P r).ev d e m2 xi with
          | some (u', m3) => match (m3.new (.tup [u, u'])) with
            | (.ref k, m4) => match m4.t.get k with
              | some (.tup vs) => match (match sw with | true => (match Nat.beq ts.length vs.length with | true => setAll e ts.reverse vs.reverse | false => .none) | false => setAll e ts vs) with
                | some e' => some (z, e', m4)
                | .none => .none
              | _ => .none
            | _ => .none
          | .none => .none
        | .none => .none
      | _ => .none
    | .none => .none
  | _ => .none
theorem S3_step {q z : Int} {e' : E} {m m' : M} {st : S} (h : evalS3 P r d q e m st = some (z, e', m')) (hz : z = q) : exStep (step P (step P r)) d e m st = some (.next, e', m') := by
  unfold evalS3 at h
  split at h
  · rename_i sw ts ct pt xt xd px xi c' p' p''
    split at h
    · rename_i v1 m1 h1
      split at h
      · rename_i z' m2 h2
        split at h
        · rename_i u h3
          split at h
          · rename_i u' m3 h4
            split at h
            · rename_i k m4 h5
              split at h
              · rename_i vs h6
                split at h
                · rename_i e₁ h7
                  cases h
                  subst hz
                  have hsub : (step P r).ev d e m (.sub xt xd px) = some (u, m2) := by
                    show evStep P r d e m (.sub xt xd px) = _
                    simp only [evStep, h1, h2, h3]
                  have hevs : evs (step P r) d e m [.sub xt xd px, xi] = some ([u, u'], m3) := by
                    simp only [evs, hsub, h4]
                  have htup : (step P (step P r)).ev d e m (.tup [.sub xt xd px, xi] c' p') = some (.ref k, m') := by
                    show evStep P (step P r) d e m (.tup [.sub xt xd px, xi] c' p') = _
                    simp only [evStep, hevs]
                    rw [← h5]; rfl
                  simp only [exStep, htup, h6]
                  cases sw with
                  | false =>
                    simp only at h7 ⊢
                    rw [h7]
                  | true =>
                    simp only at h7 ⊢
                    cases hb : ts.length.beq vs.length with
                    | true =>
                      rw [hb] at h7
                      simp only at h7 ⊢
                      rw [h7]
                    | false => rw [hb] at h7; cases h7
                · cases h
              · cases h
            · cases h
          · cases h
        · cases h
      · cases h
    · cases h
  · cases h
end
end Mine

namespace Mine
open PySem PySem.W PyProof.Rows

def pickOf (vs all : List V) (j : Nat) : List V := match Nat.beq j 3 with
  | true => vs
  | false => all.take j
def draws (vs all : List V) (q : Int) : Option (Int × E) := match evalS1 R0 20 E0 (pickOf vs all) (sAt 0) with
  | some (e₁, m₁) => match exStep R0 20 e₁ m₁ (sAt 1) with
    | some (.next, e₂, m₂) => match evalS3 P R0 20 q e₂ m₂ (sAt 2) with
      | some (z, e₃, _) => some (z, prune [2, 3, 4, 5] .none 0 e₃)
      | .none => .none
    | _ => .none
  | .none => .none
def dc (a : Int) : Int := Int.sub (Int.fmod (Int.ofNat a.natAbs) 11) 5
def di (b : Int) : Int := Int.add 1 (Int.fmod (Int.ofNat b.natAbs) 2)
def dp (c : Int) : Int := Int.fmod (Int.ofNat c.natAbs) 5
theorem d0 (all : List V) : draws [] all 3 = some (3, EW 3 2 11 3 .none) := by kernel_rfl
theorem d1 (a : Int) (all : List V) : draws [.int a] all 3 = some (3, EW (dc a) 2 11 3 .none) := by kernel_rfl
theorem d2 (a b : Int) (all : List V) : draws [.int a, .int b] all 3 = some (3, EW (dc a) (di b) 11 (Int.add (di b) 1) .none) := by kernel_rfl
theorem d3_0 (a b c : Int) (all : List V) : draws [.int a, .int b, .int c] all 0 = some (dp c, EW (dc a) (di b) 3 (Int.add (di b) 1) .none) := by kernel_rfl
theorem d3_1 (a b c : Int) (all : List V) : draws [.int a, .int b, .int c] all 1 = some (dp c, EW (dc a) (di b) 5 (Int.add (di b) 1) .none) := by kernel_rfl
theorem d3_2 (a b c : Int) (all : List V) : draws [.int a, .int b, .int c] all 2 = some (dp c, EW (dc a) (di b) 7 (Int.add (di b) 1) .none) := by kernel_rfl
theorem d3_3 (a b c : Int) (all : List V) : draws [.int a, .int b, .int c] all 3 = some (dp c, EW (dc a) (di b) 11 (Int.add (di b) 1) .none) := by kernel_rfl
theorem d3_4 (a b c : Int) (all : List V) : draws [.int a, .int b, .int c] all 4 = some (dp c, EW (dc a) (di b) 13 (Int.add (di b) 1) .none) := by kernel_rfl
theorem dc_of (a : Int) : -5 ≤ dc a ∧ dc a ≤ 5 := by
  have h : dc a = Int.ofNat a.natAbs % 11 - 5 := by
    unfold dc
    rw [Int.fmod_eq_emod_of_nonneg _ (by decide)]; rfl
  omega
theorem di_of (b : Int) : (di b = 1 ∧ Int.add (di b) 1 = 2) ∨ (di b = 2 ∧ Int.add (di b) 1 = 3) := by
  have h : di b = 1 + Int.ofNat b.natAbs % 2 := by
    unfold di
    rw [Int.fmod_eq_emod_of_nonneg _ (by decide)]; rfl
  have h2 : Int.add (di b) 1 = di b + 1 := rfl
  omega
theorem dp_of (c : Int) : dp c = 0 ∨ dp c = 1 ∨ dp c = 2 ∨ dp c = 3 ∨ dp c = 4 := by
  have h : dp c = Int.ofNat c.natAbs % 5 := by
    unfold dp
    rw [Int.fmod_eq_emod_of_nonneg _ (by decide)]
  omega
def Fine (x : Option (Int × E)) (q : Int) : Prop := ∃ c i p n, x = some (q, EW c i p n .none) ∧ -5 ≤ c ∧ c ≤ 5 ∧ ((i = 1 ∧ n = 2) ∨ (i = 2 ∧ n = 3)) ∧ (p = 3 ∨ p = 5 ∨ p = 7 ∨ p = 11 ∨ p = 13)
/-- every script's draws come out within bounds -/
theorem draws_ok (l : List Int) : ∃ q, Fine (draws ((l.map V.int).take 3) (l.map V.int) q) q := by
  match l with
  | [] => exact ⟨3, 3, 2, 11, 3, d0 _, by decide, by decide, .inr ⟨rfl, rfl⟩, by decide⟩
  | [a] => exact ⟨3, dc a, 2, 11, 3, d1 a _, (dc_of a).1, (dc_of a).2, .inr ⟨rfl, rfl⟩, by decide⟩
  | [a, b] => exact ⟨3, dc a, di b, 11, _, d2 a b _, (dc_of a).1, (dc_of a).2, di_of b, by decide⟩
  | a :: b :: c :: r =>
    have e : ((a :: b :: c :: r).map V.int).take 3 = [.int a, .int b, .int c] := by simp
    rw [e]
    rcases dp_of c with h | h | h | h | h
    · exact ⟨0, dc a, di b, 3, _, (d3_0 a b c _).trans (by rw [h]), (dc_of a).1, (dc_of a).2, di_of b, by decide⟩
    · exact ⟨1, dc a, di b, 5, _, (d3_1 a b c _).trans (by rw [h]), (dc_of a).1, (dc_of a).2, di_of b, by decide⟩
    · exact ⟨2, dc a, di b, 7, _, (d3_2 a b c _).trans (by rw [h]), (dc_of a).1, (dc_of a).2, di_of b, by decide⟩
    · exact ⟨3, dc a, di b, 11, _, (d3_3 a b c _).trans (by rw [h]), (dc_of a).1, (dc_of a).2, di_of b, by decide⟩
    · exact ⟨4, dc a, di b, 13, _, (d3_4 a b c _).trans (by rw [h]), (dc_of a).1, (dc_of a).2, di_of b, by decide⟩
end Mine

namespace Mine
open PySem PySem.W PyProof.Rows

theorem recOk_step {P : List FnE} {G : List Str} {r : Rec} (H : RecOk P G r) : RecOk P G (step P r) := ⟨ev_step H, tst_step H, exs_step H, whl_step H, lop_step H, cpr_step H⟩
theorem yes_of {x : Option (Fl × E × M)} (h : yes x = true) : ∃ e m, x = some (.ret (.bool true), e, m) := by
  unfold yes at h
  split at h
  · rename_i b e m
    subst h
    exact ⟨e, m, rfl⟩
  · cases h

section
variable {prog : Program} {w : World} {A : Around} {E' : Value → Shared → Prop} {s : Shared}
/-- what is behind the draws -/
theorem rest_sound {hb : Heap} {env : Env} {sc : Scope} {ns : List Str} (am : Amb A 20) (M₀ : Mod P G hb) {c i p n : Int} (S : St hb env sc ns (EW c i p n .none) [] M0 s.heap) (hsc : env.scope = sc) (fn : env.func.isSome = true)
    (wA : wfSs G ns sc bodyA = true) (wB : wfSs G ns sc bodyB = true) (wC : wfSs G ns sc bodyC = true) (wD : wfSs G ns sc bodyD = true)
    (l : -5 ≤ c) (u : c ≤ 5) (hin : (i = 1 ∧ n = 2) ∨ (i = 2 ∧ n = 3)) (hp : p = 3 ∨ p = 5 ∨ p = 7 ∨ p = 11 ∨ p = 13) {Q : Flow → Shared → Prop}
    (k : ∀ h' tk, (∀ b o, hb.get? b = some o → h'.get? b = some o) → Q (.ret (.bool true)) { s with heap := h', toks := tk }) :
    wpAny (model prog w) A (execs (backSs G ns (bodyA ++ (bodyB ++ (bodyC ++ bodyD)))) env) Q E' s := by
  have H : RecOk P G R0 := recOk_go P G 3000
  have fin : ∀ (n : Int), (n = 2 ∨ n = 3) → ∀ h' tk, St hb env sc ns (E2 p n) [] M0 h' → wpAny (model prog w) A (execs (backSs G ns bodyD) env) Q E' { s with heap := h', toks := tk } := by
    intro n hn h' tk S
    obtain ⟨e, m, hx⟩ := yes_of (lastAll p n hp hn)
    refine H.exs _ _ _ _ _ _ _ hx _ _ _ _ { s with heap := h', toks := tk } _ _ _ _ _ _ am M₀ S hsc fn wD fun ρ₁ h₁ tk₁ f x₁ S₁ fr => ?_
    obtain ⟨z, rfl, vz⟩ := fr
    cases (show z = .bool true from vz)
    exact k h₁ tk₁ S₁.base.keep
  rcases hin with ⟨rfl, rfl⟩ | ⟨rfl, rfl⟩
  · refine cutW_sound H am M₀ (a2 c p) rfl S hsc fn wA fun a₁ h₁ tk₁ S₁ => ?_
    refine cutW_sound H am M₀ (s := { s with heap := h₁, toks := tk₁ }) (b2 c p l u) rfl S₁ hsc fn wB fun a₂ h₂ tk₂ S₂ => ?_
    exact cutE_sound H am M₀ (s := { s with heap := h₂, toks := tk₂ }) (c2 c p) S₂ hsc fn wC fun h₃ tk₃ S₃ => fin 2 (.inl rfl) h₃ tk₃ S₃
  · refine cutW_sound H am M₀ (a3 c p) rfl S hsc fn wA fun a₁ h₁ tk₁ S₁ => ?_
    refine cutW_sound H am M₀ (s := { s with heap := h₁, toks := tk₁ }) (b3 c p l u) rfl S₁ hsc fn wB fun a₂ h₂ tk₂ S₂ => ?_
    exact cutE_sound H am M₀ (s := { s with heap := h₂, toks := tk₂ }) (c3 c p) S₂ hsc fn wC fun h₃ tk₃ S₃ => fin 3 (.inr rfl) h₃ tk₃ S₃

/-- the law's call -/
theorem law_true {q : Program} {loose : List Str} {mean : ExcName → Option Value} {mg mb : Str → Option Value} (T : Top q loose mean mg mb s.heap) (e : (recsOf q).map toDf = D) (f : freeOk q loose = true) {fa a : Addr} (hm : mg "law" = some (.ref fa))
    {ws : List Value} {l : List Int} (hl : s.heap.IsList a (List.toArray ws)) (hI : VRs [] (l.map V.int) ws) (hw : ws.length ≤ 63) (hA : Amb A 21) {Q : Value → Shared → Prop}
    (k : ∀ h' tk, (∀ b o, s.heap.get? b = some o → h'.get? b = some o) → Q (.bool true) { s with heap := h', toks := tk }) : wpAny (model prog w) A (call (.ref fa) [.ref a]) Q E' s := by
  have M₀ := mod_of_top T e f
  obtain ⟨fa', o, fd, F, hsc⟩ := fn_of_top T e lawAt
  have hfa : fa' = fa := by
    have := F.glob
    rw [nmEq, hm] at this
    cases this; rfl
  subst hfa
  refine enter F npEq (by have := hA.dep; omega) T.nolimit fun env' h₂ tk₂ mm E'' S hsc' fn hns hv => ?_
  rw [celEq] at S
  have wf := F.wf
  rw [bodyEq] at wf
  simp only [wfSs, Bool.and_eq_true] at wf
  obtain ⟨w1, w2, w3, w4⟩ := wf
  obtain ⟨wA, w4⟩ := wfSs_append w4
  obtain ⟨wB, w4⟩ := wfSs_append w4
  obtain ⟨wC, wD⟩ := wfSs_append w4
  have am : Amb (A.deeper env') 20 := hA.deeper env'
  obtain ⟨qq, c, i, p, n', hd, c1, c2, hin, hp⟩ := draws_ok l
  have H : RecOk P G R0 := recOk_go P G 3000
  have H2 : RecOk P G (step P (step P R0)) := recOk_step (recOk_step H)
  have hx : mm (nth lawD.names 0) = some (.ref a) := by rw [nth0Eq]; exact hv _ n0Eq (by rw [hsc]; exact kindEq)
  have hk : env'.kindOf (nth lawD.names 0) = some .local := by
    obtain ⟨_, _, sl⟩ := S.env.vars
    obtain ⟨_, _, sk⟩ := sl.nth (k := 0) (show E0[0]? = some (false, .none) from rfl)
    exact sk.1
  have hdb : (nth lawD.names 0 == ("__debug__" : Str)) = false := by
    rw [nth0Eq]; decide
  have hv' : ∀ j, VRs [] (pickOf ((l.map V.int).take 3) (l.map V.int) j) (ws.take j) := fun j => by
    unfold pickOf
    cases hj : Nat.beq j 3 with
    | true => rw [Nat.eq_of_beq_eq_true hj]; exact hI.take 3
    | false => exact hI.take j
  rw [bodyEq]
  show wpAny _ _ (execs (backS G lawD.names (sAt 0) :: backS G lawD.names (sAt 1) :: backS G lawD.names (sAt 2) :: backSs G lawD.names (bodyA ++ (bodyB ++ (bodyC ++ bodyD)))) env') _ _ _
  unfold draws at hd
  have RS := fun (h₃ : Heap) (tk₃ : Nat) (S₃ : St s.heap env' fd.scope lawD.names (EW c i p n' .none) [] M0 h₃) => rest_sound (E' := E'') (prog := prog) (w := w) (s := { s with heap := h₃, toks := tk₃ }) (Q := fun f s' => Q (match f with | .ret v => v | _ => .none) s') am M₀ S₃ hsc' fn wA wB wC wD c1 c2 hin hp fun h' tk kp => k h' tk kp
  generalize backSs G lawD.names (bodyA ++ (bodyB ++ (bodyC ++ bodyD))) = rest at *
  clear wA wB wC wD w4
  generalize E0 = e0 at *
  generalize sAt 0 = st0 at *
  generalize sAt 1 = st1 at *
  generalize sAt 2 = st2 at *
  generalize R0 = r0 at *
  split at hd
  · rename_i e₁ m₁ h1
    split at hd
    · rename_i e₂ m₂ h2
      split at hd
      · rename_i z e₃ m₃ h3
        simp only [Option.some.injEq, Prod.mk.injEq] at hd
        obtain ⟨hz, he⟩ := hd
        refine wpAny_execs_cons (S1_sound (s := { s with heap := h₂, toks := tk₂ }) H am M₀ S fn hns hx hk hdb (let ⟨o, ho, r⟩ := hl; ⟨o, S.base.keep _ _ ho, r⟩) hv' hw h1 w1 fun ρ₁ h₁ tk₁ S₁ => ?_)
        refine wpAny_execs_cons (ex_step H _ _ _ _ _ _ _ h2 _ _ _ _ { s with heap := h₁, toks := tk₁ } _ _ _ _ _ _ am M₀ S₁ hsc' fn w2 fun ρ₂ h₂ tk₂ f₂ x₂ S₂ fr => ?_)
        cases fr
        refine wpAny_execs_cons (ex_step H2 _ _ _ _ _ _ _ (S3_step h3 hz) _ _ _ _ { s with heap := h₂, toks := tk₂ } _ _ _ _ _ _ am M₀ S₂ hsc' fn w3 fun ρ₃ h₃ tk₃ f₃ x₃ S₃ fr => ?_)
        cases fr
        have S₄ := cut0 S₃ [2, 3, 4, 5]
        rw [he] at S₄
        exact RS h₃ tk₃ S₄
      · cases hd
    · cases hd
  · cases hd
theorem vrs_ints {ρ : List Addr} : ∀ {ws : List Value} {l : List Int}, IntsAre ws l → VRs ρ (l.map V.int) ws
  | _, _, .nil => .nil
  | _, _, .cons n t r => .cons ⟨t, rfl⟩ (vrs_ints r)
theorem good_true {c : ClaimW} {cl : Str → Option Addr} {mean : ExcName → Option Value} {args : List WData} {h' : Heap} {tk : Nat} (k : ∀ b o, s.heap.get? b = some o → h'.get? b = some o) (hg : s.gens = #[]) (hr : ∀ x, c.raises args x = false) (hp : c.post args (.bool true) args = true) :
    GoodWG c cl mean args s (.ok (.ret (.bool true))) { s with heap := h', toks := tk } :=
  GoodW.toG ⟨.inl ⟨_, _, [], rfl, hr, ReadsW.bool true, hp, fun _ => ⟨List.nodup_nil, fun _ q => (nomatch q)⟩⟩, k, rfl, hg⟩
theorem amb_caller : Amb callerA 21 := ⟨rfl, by decide, by decide⟩
end
end Mine

namespace Mine
open PySem PySem.W PyProof.Rows

def kept : Stmt → Bool
  | .FunctionDef .. => true
  | .ClassDef .. => true
  | _ => false
/-- the text's defs and its class -/
noncomputable def view : Program := { PySem.Challenge.pw_xm0147_01 with main := { PySem.Challenge.pw_xm0147_01.main with body := PySem.Challenge.pw_xm0147_01.main.body.filter kept } }
noncomputable def lawRec : DefRec := match defOf view "law" with
  | some (d, _) => d
  | none => ⟨"", { posonlyargs := [], args := [], vararg := none, kwonlyargs := [], kw_defaults := [], kwarg := none, defaults := [] }, [], { kind := .module, names := [], isGenerator := false, isCoroutine := false }, ⟨0, 0, 0, 0⟩⟩
theorem lawDef : defOf view PySem.Challenge.rw_xm0147_01.row.name = some (lawRec, []) := by kernel_rfl
theorem lawName : lawRec.name = "law" := by kernel_rfl
theorem lawKw : kwWritten? lawRec.params.kwonlyargs lawRec.params.kw_defaults = some [] := by kernel_rfl
theorem lawThe : PySem.Challenge.rw_xm0147_01.row.prog.theDef PySem.Challenge.rw_xm0147_01.row.name = some (lawRec.params, lawRec.body, lawRec.scope) := by kernel_rfl
theorem recsEq : (recsOf view).map toDf = D := by kernel_rfl
theorem freeEq : freeOk view (looseW view []) = true := by kernel_rfl

/-- a run of the top and a look behind it, put together: for any words -/
theorem left_of {p q : Program} {loose : List Str} {Xt : Shared → Bool} {N m₀ : Nat} {ann : Option Value} {R : World → OsState → Option SharedT} {H₀ : Params → Heap} {d₀ : Drawn} {k₀ : Nat} {B : Heap → Shared → Bool} {L : Shared → _}
    (open_ : ∀ w : World, (fencedOpening treeTable p w N).map (fun s => (s.heap, s.gens, s.drawn, s.toks)) = some (H₀ w.params, Array.mk [], d₀, k₀))
    (size : ∀ w : World, ((H₀ w.params).isNs mainGlobals && (Array.mk [] : Array GenState).size == 0, (H₀ w.params).objs.size, (H₀ w.params).nsMap mainGlobals "__annotations__") = (true, m₀, ann))
    (run : ∀ (w : World) (os : OsState) (sT : SharedT), R w os = some sT → topRun treeTable p w m₀ ann N ⟨H₀ w.params, Array.mk [], d₀, k₀, os⟩ (topStub p) = some sT.abs)
    (looks : ∀ (w : World) (os : OsState), (R w os).map (fun s => (B (H₀ w.params) s.abs, L s.abs)) = some (true, openGood q loose))
    (hB : ∀ h s, B h s = (staticsOk (importedModules p.main.body) h s.heap && namesBound p s.heap && gensDone s && laidKept h s.heap))
    (hL : openSeen q loose (importedModules p.main.body) Xt true = L) : LeftO p q loose Xt (fun _ => ()) (fun _ => ()) N := fun w => by
  obtain ⟨⟨h, gs, d, k, os⟩, e, e'⟩ := Option.map_eq_some_iff.mp (open_ w)
  obtain ⟨rfl, rfl, rfl, rfl⟩ : h = H₀ w.params ∧ gs = Array.mk [] ∧ d = d₀ ∧ k = k₀ := by simpa using e'
  have z1 := congrArg Prod.fst (size w)
  have z2 := congrArg (fun x => x.2.1) (size w)
  have z3 := congrArg (fun x => x.2.2) (size w)
  obtain ⟨sT, eT, eb⟩ := Option.map_eq_some_iff.mp (looks w os)
  have r := run w os sT eT
  generalize sT.abs = s₁ at *
  have b : L s₁ = openGood q loose := congrArg Prod.snd eb
  have eb' : B (H₀ w.params) s₁ = true := congrArg Prod.fst eb
  rw [hB] at eb'
  have t : topFrom treeTable p w N ⟨H₀ w.params, Array.mk [], d, k, os⟩ = some s₁ := by
    unfold topFrom
    dsimp only at z1 z2 z3 ⊢
    rw [z1, z2, z3, r]
    show (match staticsOk (importedModules p.main.body) (H₀ w.params) s₁.heap && namesBound p s₁.heap && gensDone s₁ && laidKept (H₀ w.params) s₁.heap with | true => _ | false => _) = _
    rw [eb']
  unfold openEnds
  rw [e]
  show (topFrom treeTable p w N _).map _ = _
  rw [t, hL]
  exact congrArg some (Prod.ext b rfl)
-- the run of the text's top, over a tree of objects
noncomputable def prog0 : Program := PySem.Challenge.pw_xm0147_01
def runG (ok : Thread → Bool) (st : SharedT → Thread → Option (SharedT × Thread)) : Nat → SharedT → Thread → Option SharedT
  | 0, _, _ => none
  | n + 1, s, t => match through t with
    | true => some s
    | false => match ok t with
      | false => none
      | true => match st s t with
        | some (s', t') => runG ok st n s' t'
        | none => none
theorem runG_spec {tb : String → Option Builtin} {p : Program} {w : World} {n₀ : Nat} {ann : Option Value} : ∀ {n : Nat} {s s' : SharedT} {t : Thread}, runG (stepOk n₀ ann) (stepT (denote tb) p w) n s t = some s' → topRun tb p w n₀ ann n s.abs t = some s'.abs
  | 0, _, _, _, h => by cases h
  | n + 1, s, s', t, h => by
    unfold runG at h
    unfold topRun
    cases he : through t with
    | true => rw [he] at h; cases h; rfl
    | false =>
      rw [he] at h
      cases hk : stepOk n₀ ann t with
      | false => rw [hk] at h; cases h
      | true =>
        rw [hk] at h
        cases hs : stepT (denote tb) p w s t with
        | none => rw [hs] at h; cases h
        | some r => obtain ⟨s₂, t₂⟩ := r; rw [hs] at h; rw [stepT_spec hs]; exact runG_spec h
def growT : BT → Nat → List Obj → BT
  | t, _, [] => t
  | t, k, o :: l => growT (t.ins k o) (k + 1) l
noncomputable def T0 (P : Params) : BT := growT .nil 0 (boot_heap P).objs.toList
noncomputable def s0T (w : World) (os : OsState) : SharedT := ⟨T0 w.params, 11, (boot_heap w.params).life, Array.mk [], boot_drawn, boot_toks, os⟩
noncomputable def XtV (s : Shared) : Bool := xlAt view [] s && recOk (RowW.records PySem.Challenge.rw_xm0147_01.row.toRowW) s
noncomputable def behind (h0 : Heap) (s : Shared) : Bool := staticsOk (importedModules prog0.main.body) h0 s.heap && namesBound prog0 s.heap && gensDone s && laidKept h0 s.heap
/-- the run, by the kit's swift twins of its words -/
noncomputable def ranT (w : World) (os : OsState) : Option SharedT :=
  runG (PySem.W.Fast.tw6613529449190102663 11 (some (.ref 6))) (PySem.W.Fast.tw10156331382660048174 (PySem.W.Fast.tw11892475500146522536 PySem.W.Fast.tw14364793385576792824) prog0 w) 3556 (s0T w os) (topStub prog0)
theorem ranT_eq (w : World) (os : OsState) : ranT w os = runG (stepOk 11 (some (.ref 6))) (stepT (denote treeTable) prog0 w) 3556 (s0T w os) (topStub prog0) := by
  unfold ranT
  rw [← PySem.W.Fast.te6613529449190102663, ← PySem.W.Fast.te10156331382660048174, ← PySem.W.Fast.te11892475500146522536, ← PySem.W.Fast.te14364793385576792824]
theorem sz : ∀ w : World, ((boot_heap w.params).isNs mainGlobals && (Array.mk [] : Array GenState).size == 0, (boot_heap w.params).objs.size, (boot_heap w.params).nsMap mainGlobals "__annotations__") = (true, 11, some (.ref 6)) := fun w => by kernel_rfl
theorem ab : ∀ P : Params, absHeap (T0 P) 11 (boot_heap P).life = boot_heap P := fun P => by kernel_rfl
theorem opn : opening prog0 = plainProg prog0.main.scope.names := by kernel_rfl
theorem fnc : ∀ s, fenceModules? prog0 s = some s := fun s => by kernel_rfl
theorem ranAll : ∀ w os, (ranT w os).map (fun s => (behind (boot_heap w.params) s.abs, PySem.W.Fast.tw4187177175401517315 view [] (importedModules prog0.main.body) XtV true s.abs)) = some (true, openGood view []) := fun w os => by kernel_rfl
theorem seenTw : openSeen view [] (importedModules prog0.main.body) XtV true = PySem.W.Fast.tw4187177175401517315 view [] (importedModules prog0.main.body) XtV true := by rw [← PySem.W.Fast.te4187177175401517315]
theorem ran_run (w : World) (os : OsState) (sT : SharedT) (eT : ranT w os = some sT) : topRun treeTable prog0 w 11 (some (.ref 6)) 3556 ⟨boot_heap w.params, Array.mk [], boot_drawn, boot_toks, os⟩ (topStub prog0) = some sT.abs := by
  rw [ranT_eq] at eT
  have r := runG_spec eT
  have hs : (s0T w os).abs = ⟨boot_heap w.params, Array.mk [], boot_drawn, boot_toks, os⟩ := by
    show (⟨absHeap (T0 w.params) 11 (boot_heap w.params).life, Array.mk [], boot_drawn, boot_toks, os⟩ : Shared) = _
    rw [ab]
  rw [hs] at r
  exact r
theorem left : LeftO prog0 view [] XtV (Hook.obs Hook.none) (Hook.val Hook.none) 3556 :=
  left_of (boot_open opn (by decide : Nat.ble 600 3556 = true) fnc) sz ran_run ranAll (fun _ _ => rfl) seenTw
end Mine

open PySem PySem.W PyProof.Rows
set_option maxRecDepth 100000 in
set_option maxHeartbeats 8000000 in
theorem PySem.Challenge.cw_xm0147_01_holds : PySem.Challenge.rw_xm0147_01.Holds := by
  w_on; o_law
  refine holds_open (r := PySem.Challenge.rw_xm0147_01.row) (q := Mine.view) (loose := []) (Xt := Mine.XtV) (XP := XL Mine.view [])
    (Yf := Hook.obs Hook.none) (Ya := Hook.val Hook.none) (YP := Hook.says Hook.none) (N := 3556) Mine.left (Hook.of Hook.none) (Hook.keeps Hook.none) (fun s e => xl_of s (Bool.and_eq_true_iff.mp e).1) XL.keeps Mine.lawDef Mine.lawThe Mine.lawKw
    (fun s e => recFacts_of (Bool.and_eq_true_iff.mp e).2) (by kernel_rfl) (by first | assumption | decide +kernel) (by decide +kernel) ⟨rfl, rfl, rfl, rfl, rfl, by decide +kernel⟩ ?hw ?hc
  (case hw => w_witness2)
  intro w s₀ s₁ mg mb G y fa o pm cd doc dV kV ho hd hcd hD hmg hg args vals as hpre hlay hrd hwl hlo
  have T := G.T
  clear hd hcd hD
  rw [Mine.lawName] at hmg
  wrow_args hpre hlay hrd hwl hlo
  rename PySem.Heap.IsList _ _ _ => hLs
  rename IntsAre _ _ => hIs
  rename ¬ _ => hc
  have hlen := (Mine.vrs_ints (ρ := []) hIs).length
  rw [List.length_map] at hlen
  exact Mine.law_true T Mine.recsEq Mine.freeEq hmg hLs (Mine.vrs_ints hIs) (by omega) Mine.amb_caller fun h' tk kp => Mine.good_true kp hg (fun _ => rfl) (by first | rfl | wrow_post)
