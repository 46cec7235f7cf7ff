import PyProof.Rows.All
import HandS.ForMost
import HandS.Evl
import HandS.Lambda
import HandS.Flow
import HandS.IsInst
import HandS.ExcOwn
import HandS.WordsExc
import HandS.CallSlots
import HandS.Style
import HandS.Wide
import HandS.TupAny
import PyProof.NeKinds
import HandS.Deep
import KE.KDictCopyH
import HandS.SetKeys
import HandS.Iter
import HandS.Walk
import HandS.Rev
import HandS.DictTup
import HandS.ClsMeth
import HandS.Conv
import KE.GoesRev
import HandS.Defaults
import HandS.HeadHook2
import HandS.HeadEnd
import HandS.HeadWalk
import HandS.HeadHook4
import HandS.Head0
import HandS.Head1
import HandS.Head2
import PySem.Challenge.RW_askpaper_k67_most_left_out
set_option linter.all false
set_option maxRecDepth 100000
/-! Co1: a small language of values and cells: what it computes. -/
namespace Co
open PySem L2

/-- a value: frozen data as trees, a cell for what may change -/
inductive D where
  | non | bl (b : Bool) | int (i : Int) | str (x : Str)
  | tup (xs : List D) | lst (xs : List D) | dic (t : Bool) (kvs : List (D × D)) | ins (c : Nat) (fs : List (Nat × D))
  | cell (i : Nat) | wtup (xs : List D)

/-! ### equality of values is decidable -/
mutual
def D.dec : (a b : D) → Decidable (a = b)
  | .non, b => match b with
    | .non => .isTrue rfl
    | .bl _ | .int _ | .str _ | .tup _ | .lst _ | .dic _ _ | .ins _ _ | .cell _ | .wtup _ => .isFalse (fun e => nomatch e)
  | .bl x, b => match b with
    | .bl y => if h : x = y then .isTrue (by rw [h]) else .isFalse (fun e => h (D.bl.inj e))
    | .non | .int _ | .str _ | .tup _ | .lst _ | .dic _ _ | .ins _ _ | .cell _ | .wtup _ => .isFalse (fun e => nomatch e)
  | .int x, b => match b with
    | .int y => if h : x = y then .isTrue (by rw [h]) else .isFalse (fun e => h (D.int.inj e))
    | .non | .bl _ | .str _ | .tup _ | .lst _ | .dic _ _ | .ins _ _ | .cell _ | .wtup _ => .isFalse (fun e => nomatch e)
  | .str x, b => match b with
    | .str y => if h : x = y then .isTrue (by rw [h]) else .isFalse (fun e => h (D.str.inj e))
    | .non | .bl _ | .int _ | .tup _ | .lst _ | .dic _ _ | .ins _ _ | .cell _ | .wtup _ => .isFalse (fun e => nomatch e)
  | .tup x, b => match b with
    | .tup y => match D.decs x y with
      | .isTrue h => .isTrue (by rw [h])
      | .isFalse h => .isFalse (fun e => h (D.tup.inj e))
    | .non | .bl _ | .int _ | .str _ | .lst _ | .dic _ _ | .ins _ _ | .cell _ | .wtup _ => .isFalse (fun e => nomatch e)
  | .lst x, b => match b with
    | .lst y => match D.decs x y with
      | .isTrue h => .isTrue (by rw [h])
      | .isFalse h => .isFalse (fun e => h (D.lst.inj e))
    | .non | .bl _ | .int _ | .str _ | .tup _ | .dic _ _ | .ins _ _ | .cell _ | .wtup _ => .isFalse (fun e => nomatch e)
  | .dic t x, b => match b with
    | .dic u y => if h : t = u then match D.decp x y with
      | .isTrue h2 => .isTrue (by rw [h, h2])
      | .isFalse h2 => .isFalse (fun e => h2 (D.dic.inj e).2)
      else .isFalse (fun e => h (D.dic.inj e).1)
    | .non | .bl _ | .int _ | .str _ | .tup _ | .lst _ | .ins _ _ | .cell _ | .wtup _ => .isFalse (fun e => nomatch e)
  | .ins t x, b => match b with
    | .ins u y => if h : t = u then match D.decf x y with
      | .isTrue h2 => .isTrue (by rw [h, h2])
      | .isFalse h2 => .isFalse (fun e => h2 (D.ins.inj e).2)
      else .isFalse (fun e => h (D.ins.inj e).1)
    | .non | .bl _ | .int _ | .str _ | .tup _ | .lst _ | .dic _ _ | .cell _ | .wtup _ => .isFalse (fun e => nomatch e)
  | .cell x, b => match b with
    | .cell y => if h : x = y then .isTrue (by rw [h]) else .isFalse (fun e => h (D.cell.inj e))
    | .non | .bl _ | .int _ | .str _ | .tup _ | .lst _ | .dic _ _ | .ins _ _ | .wtup _ => .isFalse (fun e => nomatch e)
  | .wtup x, b => match b with
    | .wtup y => match D.decs x y with
      | .isTrue h => .isTrue (by rw [h])
      | .isFalse h => .isFalse (fun e => h (D.wtup.inj e))
    | .non | .bl _ | .int _ | .str _ | .tup _ | .lst _ | .dic _ _ | .ins _ _ | .cell _ => .isFalse (fun e => nomatch e)
termination_by structural x => x
def D.decs : (a b : List D) → Decidable (a = b)
  | [], b => match b with
    | [] => .isTrue rfl
    | _ :: _ => .isFalse (fun e => nomatch e)
  | x :: r, b => match b with
    | [] => .isFalse (fun e => nomatch e)
    | y :: s => match D.dec x y with
      | .isTrue h => match D.decs r s with
        | .isTrue h2 => .isTrue (by rw [h, h2])
        | .isFalse h2 => .isFalse (fun e => h2 (List.cons.inj e).2)
      | .isFalse h => .isFalse (fun e => h (List.cons.inj e).1)
termination_by structural x => x
def D.decp : (a b : List (D × D)) → Decidable (a = b)
  | [], b => match b with
    | [] => .isTrue rfl
    | _ :: _ => .isFalse (fun e => nomatch e)
  | x :: r, b => match b with
    | [] => .isFalse (fun e => nomatch e)
    | y :: s => match D.decq x y with
      | .isTrue h => match D.decp r s with
        | .isTrue h2 => .isTrue (by rw [h, h2])
        | .isFalse h2 => .isFalse (fun e => h2 (List.cons.inj e).2)
      | .isFalse h => .isFalse (fun e => h (List.cons.inj e).1)
termination_by structural x => x
def D.decq : (a b : D × D) → Decidable (a = b)
  | (k, v), b => match D.dec k b.1 with
    | .isTrue h => match D.dec v b.2 with
      | .isTrue h2 => .isTrue (by cases b; simp only at h h2; rw [h, h2])
      | .isFalse h2 => .isFalse (fun e => h2 (by rw [← e]))
    | .isFalse h => .isFalse (fun e => h (by rw [← e]))
termination_by structural x => x
def D.decf : (a b : List (Nat × D)) → Decidable (a = b)
  | [], b => match b with
    | [] => .isTrue rfl
    | _ :: _ => .isFalse (fun e => nomatch e)
  | x :: r, b => match b with
    | [] => .isFalse (fun e => nomatch e)
    | y :: s => match D.decg x y with
      | .isTrue h => match D.decf r s with
        | .isTrue h2 => .isTrue (by rw [h, h2])
        | .isFalse h2 => .isFalse (fun e => h2 (List.cons.inj e).2)
      | .isFalse h => .isFalse (fun e => h (List.cons.inj e).1)
termination_by structural x => x
def D.decg : (a b : Nat × D) → Decidable (a = b)
  | (k, v), b => if h : k = b.1 then match D.dec v b.2 with
      | .isTrue h2 => .isTrue (by cases b; simp only at h h2; rw [h, h2])
      | .isFalse h2 => .isFalse (fun e => h2 (by rw [← e]))
    else .isFalse (fun e => h (by rw [← e]))
termination_by structural x => x
end
instance : DecidableEq D := D.dec

inductive Cell where
  | dead | lst (xs : List D) | dic (t : Bool) (kvs : List (D × D)) | ins (c : Nat) (fs : List (Nat × D)) | ldic (t : Bool) (kvs : List (D × D))
  | clo (f : Nat) (ds : List D)
  deriving DecidableEq
abbrev Store := List Cell

/-! ### which cells a value names -/
mutual
def D.lt (n : Nat) : D → Bool
  | .tup xs => D.lts n xs
  | .wtup xs => D.lts n xs
  | .lst xs => D.lts n xs
  | .dic _ kvs => D.ltp n kvs
  | .ins _ fs => D.ltf n fs
  | .cell i => decide (i < n)
  | _ => true
termination_by structural x => x
def D.lts (n : Nat) : List D → Bool
  | [] => true
  | x :: r => x.lt n && D.lts n r
termination_by structural x => x
def D.ltp (n : Nat) : List (D × D) → Bool
  | [] => true
  | p :: r => D.ltq n p && D.ltp n r
termination_by structural x => x
def D.ltq (n : Nat) : D × D → Bool
  | (k, v) => k.lt n && v.lt n
termination_by structural x => x
def D.ltf (n : Nat) : List (Nat × D) → Bool
  | [] => true
  | p :: r => D.ltg n p && D.ltf n r
termination_by structural x => x
def D.ltg (n : Nat) : Nat × D → Bool
  | (_, v) => v.lt n
termination_by structural x => x
end
def Cell.lt (n : Nat) : Cell → Bool
  | .dead => true
  | .lst xs => D.lts n xs
  | .dic _ kvs => D.ltp n kvs
  | .ins _ fs => D.ltf n fs
  | .ldic _ kvs => D.ltp n kvs
  | .clo _ ds => D.lts n ds
/-- neither gone nor locked -/
def Cell.free : Cell → Bool
  | .dead => false
  | .ldic _ _ => false
  | .clo _ _ => false
  | _ => true
/-- the cells of old that stand in new as they were, or name old cells alone -/
def keeps (n : Nat) : Store → Store → Bool
  | [], _ => true
  | _ :: _, [] => false
  | c :: r, c' :: r' => (decide (c' = c) || c'.lt n) && keeps n r r'

/-! ### data: no instance, no cell within; equality -/
mutual
def D.dat (n : Nat) : D → Bool
  | .tup xs => match n with
    | 0 => false
    | n + 1 => D.dats n xs
  | .wtup xs => match n with
    | 0 => false
    | n + 1 => D.dats n xs
  | .lst xs => match n with
    | 0 => false
    | n + 1 => D.dats n xs
  | .dic _ _ => false
  | .ins _ _ => false
  | .cell _ => false
  | .non => true
  | .bl _ => true
  | .int _ => true
  | .str _ => true
termination_by structural x => x
def D.dats (n : Nat) : List D → Bool
  | [] => true
  | x :: r => x.dat n && D.dats n r
termination_by structural x => x
end
def b2n (b : Bool) : Int := if b then 1 else 0
def kfind : List (D × D) → D → Option D
  | [], _ => none
  | (k, v) :: r, q => if k = q then some v else kfind r q
def kput (l : List (D × D)) (q w : D) : List (D × D) := if (l.any fun p => decide (p.1 = q)) = true then l.map (fun p => if p.1 = q then (p.1, w) else p) else l ++ [(q, w)]
def kdrop (l : List (D × D)) (q : D) : List (D × D) := l.filter fun p => decide (p.1 ≠ q)
mutual
def D.eqv : D → D → Bool
  | .non, e => match e with
    | .non => true
    | _ => false
  | .bl x, e => match e with
    | .bl y => x == y
    | .int y => b2n x == y
    | _ => false
  | .int x, e => match e with
    | .bl y => x == b2n y
    | .int y => x == y
    | _ => false
  | .str x, e => match e with
    | .str y => decide (x = y)
    | _ => false
  | .tup xs, e => match e with
    | .tup ys => D.eqvs xs ys
    | .wtup ys => D.eqvs xs ys
    | _ => false
  | .wtup xs, e => match e with
    | .tup ys => D.eqvs xs ys
    | .wtup ys => D.eqvs xs ys
    | _ => false
  | .lst xs, e => match e with
    | .lst ys => D.eqvs xs ys
    | _ => false
  | .dic _ xs, e => match e with
    | .dic _ ys => xs.length == ys.length && D.eqvp xs ys
    | _ => false
  | .ins _ _, _ => false
  | .cell _, _ => false
termination_by structural x => x
def D.eqvs : List D → List D → Bool
  | [], e => match e with
    | [] => true
    | _ => false
  | x :: r, e => match e with
    | y :: s => x.eqv y && D.eqvs r s
    | _ => false
termination_by structural x => x
def D.eqvp : List (D × D) → List (D × D) → Bool
  | [], _ => true
  | p :: r, ys => D.eqvq p ys && D.eqvp r ys
termination_by structural x => x
def D.eqvq : D × D → List (D × D) → Bool
  | (k, v), ys => match kfind ys k with
    | some u => v.eqv u
    | none => false
termination_by structural x => x
end

/-! ### what comes of a piece of text -/
/-- an exception: its class, its fields -/
structure Exn where
  c : Nat
  fs : List (Nat × D)
inductive Res (ε α : Type) where
  | ok (a : α) (μ : Store) | ex (x : ε) (μ : Store) | bad
def Res.bind {ε α β : Type} (r : Res ε α) (f : α → Store → Res ε β) : Res ε β := match r with
  | .ok a μ => f a μ
  | .ex x μ => .ex x μ
  | .bad => .bad
@[simp] theorem Res.bind_ok {ε α β : Type} (a : α) (μ : Store) (f : α → Store → Res ε β) : (Res.ok a μ).bind f = f a μ := rfl
@[simp] theorem Res.bind_ex {ε α β : Type} (a : ε) (μ : Store) (f : α → Store → Res ε β) : (Res.ex a μ).bind f = .ex a μ := rfl
@[simp] theorem Res.bind_bad {ε α β : Type} (f : α → Store → Res ε β) : (Res.bad : Res ε α).bind f = .bad := rfl
def ofO {ε α : Type} (o : Option α) (μ : Store) : Res ε α := match o with
  | some a => .ok a μ
  | none => .bad
@[simp] theorem ofO_some {ε α : Type} (a : α) (μ : Store) : (ofO (some a) μ : Res ε α) = .ok a μ := rfl
@[simp] theorem ofO_none {ε α : Type} (μ : Store) : (ofO (none : Option α) μ : Res ε α) = .bad := rfl
abbrev RD := Res Exn D

/-! ### views -/
def lstOf (μ : Store) : D → Option (List D)
  | .lst xs => some xs
  | .cell i => match μ[i]? with
    | some (.lst xs) => some xs
    | _ => none
  | _ => none
def dicOf (μ : Store) : D → Option (Bool × List (D × D))
  | .dic t kvs => some (t, kvs)
  | .cell i => match μ[i]? with
    | some (.dic t kvs) => some (t, kvs)
    | some (.ldic t kvs) => some (t, kvs)
    | _ => none
  | _ => none
def insOf (μ : Store) : D → Option (Nat × List (Nat × D))
  | .ins c fs => some (c, fs)
  | .cell i => match μ[i]? with
    | some (.ins c fs) => some (c, fs)
    | _ => none
  | _ => none
def seqOf (μ : Store) : D → Option (List D)
  | .tup xs => some xs
  | .wtup xs => some xs
  | d => lstOf μ d
/-- a cell's content as frozen data -/
def still (μ : Store) : D → Option D
  | .cell i => match μ[i]? with
    | some (.lst xs) => some (.lst xs)
    | some (.dic t kvs) => some (.dic t kvs)
    | some (.ins c fs) => some (.ins c fs)
    | _ => none
  | d => some d
def signs (x : Str) : List D := x.cps.toList.map fun c => .str ⟨#[c]⟩

/-! ### operators -/
inductive BinO where
  | add | sub | mul | mod | fdiv | pow | shl
  deriving DecidableEq
inductive CmpO where
  | lt | le | gt | ge | eq | ne | isin | notin | is | isnt
  deriving DecidableEq
def mulB (i j : Int) : Bool := decide (i.natAbs.log2 + j.natAbs.log2 < 1000000)
def divB (j : Int) : Bool := decide (0 < j ∧ j.natAbs.log2 < 9000)
def mulSB (a : Str) (n : Int) : Bool := decide (-1000000 ≤ n ∧ n ≤ 1000000 ∧ a.length ≤ 16)
def powB (i j : Int) : Bool := decide (0 ≤ j ∧ j ≤ 1000000 ∧ i.natAbs < 2 ^ 64)
def sz (n : Nat) : Bool := decide (n ≤ sizeLine)
def binS (μ : Store) : BinO → D → D → RD
  | .add, d, e => match d, e with
    | .int i, .int j => .ok (.int (i + j)) μ
    | .str a, .str b => if sz (a.length + b.length) then .ok (.str (a ++ b)) μ else .bad
    | .tup xs, .tup ys => if sz (xs.length + ys.length) then .ok (.tup (xs ++ ys)) μ else .bad
    | d, e => match lstOf μ d, lstOf μ e with
      | some xs, some ys => if sz (xs.length + ys.length) then .ok (.lst (xs ++ ys)) μ else .bad
      | _, _ => .bad
  | .sub, .int i, .int j => .ok (.int (i - j)) μ
  | .mul, .int i, .int j => if mulB i j then .ok (.int (i * j)) μ else .bad
  | .mul, .str a, .int n => if mulSB a n then .ok (.str (Txt.mul a n)) μ else .bad
  | .mod, .int i, .int j => if decide (0 < j) then .ok (.int (i % j)) μ else .bad
  | .fdiv, .int i, .int j => if divB j then .ok (.int (i / j)) μ else .bad
  | .pow, .int i, .int j => if powB i j then .ok (.int (i ^ j.toNat)) μ else .bad
  | .shl, .int i, .int j => if powB i j then .ok (.int (i * 2 ^ j.toNat)) μ else .bad
  | _, _, _ => .bad
/-- None, truths, whole numbers, texts -/
def D.flat : D → Bool
  | .non => true
  | .bl _ => true
  | .int _ => true
  | .str _ => true
  | _ => false
def D.isKey : D → Bool
  | .int _ => true
  | .str _ => true
  | _ => false
def keyB (t : Bool) (k : D) : Bool := match t, k with
  | false, k => k.isKey
  | true, .tup ks => ks.all D.isKey
  | true, _ => false
def eqS0 (μ : Store) (d e : D) : Option Bool := match still μ d, still μ e with
  | some d, some e => if d.dat 60 && e.dat 60 then some (d.eqv e) else none
  | _, _ => none
/-- .. or any list against the empty one -/
def eqS (μ : Store) (d e : D) : Option Bool := match eqS0 μ d e with
  | some b => some b
  | none => match lstOf μ d, lstOf μ e with
    | some xs, some [] => some xs.isEmpty
    | _, _ => none
def inS (μ : Store) (d e : D) : Option Bool := match dicOf μ e with
  | some (t, kvs) => if keyB t d then some (kfind kvs d).isSome else none
  | none => match d, e with
    | .str x, .str y => some (!(Builtin.Str.occurrences y x 0 y.length 1).isEmpty)
    | d, .tup xs => if d.flat && xs.all D.flat then some (xs.any fun x => x.eqv d) else none
    | d, .wtup xs => if d.flat && xs.all D.flat then some (xs.any fun x => x.eqv d) else none
    | d, e => match lstOf μ e with
      | some xs => if d.dat 60 && D.dats 59 xs then some (xs.any fun x => x.eqv d) else none
      | none => none
def cmpS (μ : Store) : CmpO → D → D → Option Bool
  | .lt, .int i, .int j => some (decide (i < j))
  | .le, .int i, .int j => some (decide (i ≤ j))
  | .gt, .int i, .int j => some (decide (j < i))
  | .ge, .int i, .int j => some (decide (j ≤ i))
  | .eq, d, e => eqS μ d e
  | .ne, d, e => (eqS μ d e).map (!·)
  | .isin, d, e => inS μ d e
  | .notin, d, e => (inS μ d e).map (!·)
  | .is, d, .non => some (decide (d = .non))
  | .isnt, d, .non => some (!decide (d = .non))
  | .is, .bl a, .bl b => some (decide (a = b))
  | .isnt, .bl a, .bl b => some (!decide (a = b))
  | _, _, _ => none
def truth (μ : Store) : D → Option Bool
  | .non => some false
  | .bl b => some b
  | .int i => some (i != 0)
  | .str x => if sz x.length then some (x.length != 0) else none
  | .tup xs => some (!xs.isEmpty)
  | .wtup xs => some (!xs.isEmpty)
  | d => match lstOf μ d with
    | some xs => some (!xs.isEmpty)
    | none => none
end Co

set_option linter.all false
set_option maxRecDepth 100000
/-! Co2: the text of the small language, and its evaluator. -/
namespace Co
open PySem L2

/-! ### built-ins -/
inductive Ty where
  | own (c : Nat) | int | bool | str | list | tuple | dict
  deriving DecidableEq
/-- what kind of thing a value is -/
inductive Kd where
  | own (c : Nat) | ty (n : String)
def kindOf (μ : Store) : D → Option Kd
  | .non => some (.ty "NoneType")
  | .bl _ => some (.ty "bool")
  | .int _ => some (.ty "int")
  | .str _ => some (.ty "str")
  | .tup _ => some (.ty "tuple")
  | .wtup _ => some (.ty "tuple")
  | .lst _ => some (.ty "list")
  | .dic false _ => some (.ty "dict")
  | .dic true _ => none
  | .ins c _ => some (.own c)
  | .cell i => match μ[i]? with
    | some (.lst _) => some (.ty "list")
    | some (.dic _ _) => some (.ty "dict")
    | some (.ins c _) => some (.own c)
    | _ => none
def tyN : Ty → String
  | .own _ => ""
  | .int => "int"
  | .bool => "bool"
  | .str => "str"
  | .list => "list"
  | .tuple => "tuple"
  | .dict => "dict"
/-- sub: each class's classes above it, itself among them -/
def isiK (sub : List (List Nat)) : Kd → Ty → Bool
  | .own b, .own c => (sub.getD b []).contains c
  | .ty _, .own _ => false
  | .own _, _ => false
  | .ty n, t => decide (n = tyN t) || (decide (n = "bool") && decide (tyN t = "int"))
def kdB (n : Nat) : Kd → Bool
  | .own c => decide (c < n)
  | .ty _ => true
def isi (sub : List (List Nat)) (μ : Store) (d : D) (t : Ty) : Option Bool := (kindOf μ d).bind fun k => if kdB sub.length k then some (isiK sub k t) else none
inductive BI where
  | len | str | int | list (fz : Bool) | tuple | dict (fz : Bool) | lenset | sorted (fz : Bool) | sum | abs | min | max | divmod
  deriving DecidableEq
def lenOf (μ : Store) : D → Option Nat
  | .str x => if sz x.length then some x.length else none
  | d => match seqOf μ d with
    | some xs => some xs.length
    | none => none
def put (μ : Store) (fz : Bool) (d : D) : RD := match fz, d with
  | true, d => .ok d μ
  | false, .lst xs => .ok (.cell μ.length) (μ ++ [.lst xs])
  | false, .dic t kvs => .ok (.cell μ.length) (μ ++ [.dic t kvs])
  | false, _ => .bad
def allInt : List D → Option (List Int)
  | [] => some []
  | .int i :: r => (allInt r).map (i :: ·)
  | _ :: _ => none
def allStr : List D → Option (List Str)
  | [] => some []
  | .str i :: r => (allStr r).map (i :: ·)
  | _ :: _ => none
/-- an order on texts, on tuples of texts -/
def strLt (a b : Str) : Bool := decide (a.cps.toList < b.cps.toList)
def D.lt2 : D → D → Bool
  | .str a, .str b => strLt a b
  | .tup [.str a, .str b], .tup [.str c, .str d] => strLt a c || (decide (a = c) && strLt b d)
  | _, _ => false
def sortable : List D → Bool
  | xs => xs.all (fun d => match d with | .str _ => true | _ => false) || xs.all (fun d => match d with | .tup [.str _, .str _] => true | _ => false)
def ins1 (d : D) : List D → List D
  | [] => [d]
  | e :: r => if D.lt2 d e then d :: e :: r else e :: ins1 d r
def sortD : List D → List D
  | [] => []
  | d :: r => ins1 d (sortD r)
def distinct : List Str → List Str
  | [] => []
  | x :: r => if x ∈ r then distinct r else x :: distinct r
/-- pairs of a key and a thing -/
def pairsD : List D → Option (List (D × D))
  | [] => some []
  | .tup [k, v] :: r => if k.isKey then (pairsD r).map ((k, v) :: ·) else none
  | _ :: _ => none
def mergeD : List (D × D) → List (D × D) → List (D × D)
  | kvs, [] => kvs
  | kvs, (k, v) :: r => mergeD (kput kvs k v) r
def keysOr (μ : Store) (d : D) : Option (List D) := match dicOf μ d with
  | some (_, kvs) => some (kvs.map fun (p : D × D) => p.1)
  | none => seqOf μ d
def biS (μ : Store) : BI → List D → RD
  | .len, [d] => ofO ((lenOf μ d).map fun n => .int n) μ
  | .str, [.int i] => if decide (i.natAbs.log2 < 1920) then .ok (.str (toString i)) μ else .bad
  | .int, [.int i] => .ok (.int i) μ
  | .int, [.bl b] => .ok (.int (b2n b)) μ
  | .int, [.str x] => if decide (x.length ≤ 640) then ofO ((PySem.intText? x).map D.int) μ else .bad
  | .list fz, [d] => match seqOf μ d with
    | some xs => put μ fz (.lst xs)
    | none => .bad
  | .tuple, [.tup xs] => .ok (.tup xs) μ
  | .tuple, [.wtup xs] => .ok (.wtup xs) μ
  | .tuple, [d] => match lstOf μ d with
    | some xs => .ok (.tup xs) μ
    | none => .bad
  | .dict fz, [d] => match dicOf μ d with
    | some (t, kvs) => if !t || decide (kvs.length ≤ 1) then put μ fz (.dic t kvs) else .bad
    | none => match (lstOf μ d).bind pairsD with
      | some kvs => put μ fz (.dic false (mergeD [] kvs))
      | none => .bad
  | .lenset, [d] => match (seqOf μ d).bind allStr with
    | some xs => if decide (xs.length ≤ 100) then .ok (.int (distinct xs).length) μ else .bad
    | none => .bad
  | .sorted fz, [d] => match keysOr μ d with
    | some xs => if decide (xs.length < 64) && sortable xs then put μ fz (.lst (sortD xs)) else .bad
    | none => .bad
  | .sum, [d] => match (lstOf μ d).bind allInt with
    | some ns => .ok (.int ns.sum) μ
    | none => .bad
  | .abs, [.int i] => .ok (.int (if i < 0 then -i else i)) μ
  | .min, [.int i, .int j] => .ok (.int (if j < i then j else i)) μ
  | .max, [.int i, .int j] => .ok (.int (if j > i then j else i)) μ
  | _, _ => .bad
inductive BM where
  | append | extend | clear | get | split | join | startswith | strip | partition | index | setdefault (fz : Bool) | pop | zfill
  deriving DecidableEq
/-- which things have the method -/
def bmTy (μ : Store) : BM → D → Bool
  | .append, d => (lstOf μ d).isSome
  | .extend, d => (lstOf μ d).isSome
  | .index, d => (lstOf μ d).isSome
  | .clear, d => (lstOf μ d).isSome || (dicOf μ d).isSome
  | .pop, d => (lstOf μ d).isSome
  | .get, d => (dicOf μ d).isSome
  | .setdefault _, d => (dicOf μ d).isSome
  | _, .str _ => true
  | _, _ => false
def indexOf (d : D) : List D → Option Nat
  | [] => none
  | x :: r => if x.eqv d then some 0 else (indexOf d r).map (· + 1)
def bmS (μ : Store) : BM → D → List D → RD
  | .append, .cell i, [d] => match μ[i]? with
    | some (.lst xs) => if sz (xs.length + 1) then .ok .non (μ.set i (.lst (xs ++ [d]))) else .bad
    | _ => .bad
  | .extend, .cell i, [d] => match μ[i]?, lstOf μ d with
    | some (.lst xs), some ys => if sz (xs.length + ys.length) then .ok .non (μ.set i (.lst (xs ++ ys))) else .bad
    | _, _ => .bad
  | .clear, .cell i, [] => match μ[i]? with
    | some (.lst _) => .ok .non (μ.set i (.lst []))
    | _ => .bad
  | .get, d, [k] => match dicOf μ d with
    | some (t, kvs) => if keyB t k then .ok ((kfind kvs k).getD .non) μ else .bad
    | none => .bad
  | .get, d, [k, e] => match dicOf μ d with
    | some (t, kvs) => if keyB t k then .ok ((kfind kvs k).getD e) μ else .bad
    | none => .bad
  | .split, .str a, [.str b] => if !(b.length == 0) && b.cps.all (· < 256) && sz (a.length + 2) then .ok (.lst ((Txt.split a b).map D.str)) μ else .bad
  | .join, .str a, [d] => match (seqOf μ d).bind allStr with
    | some xs => if decide ((xs.map (·.length)).sum + xs.length * a.length ≤ 16777216) then .ok (.str (Txt.join a xs)) μ else .bad
    | none => .bad
  | .startswith, .str a, [.str b] => .ok (.bl (Txt.startswith a b)) μ
  | .pop, .cell i, [.int j] => match μ[i]? with
    | some (.lst (x :: xs)) => if j = 0 then .ok x (μ.set i (.lst xs)) else .bad
    | _ => .bad
  | .setdefault _, .cell i, [k, e] => match μ[i]? with
    | some (.dic false kvs) => if k.isKey && sz (kvs.length + 1) then match kfind kvs k with
        | some v => .ok v μ
        | none => .ok e (μ.set i (.dic false (kput kvs k e)))
      else .bad
    | _ => .bad
  | .index, d, [e] => match lstOf μ d with
    | some xs => if D.dats 59 xs && e.dat 60 then ofO ((indexOf e xs).map fun n => .int n) μ else .bad
    | none => .bad
  | _, _, _ => .bad

/-! ### subscripts -/
def ixS (μ : Store) (d i : D) : RD := match dicOf μ d with
  | some (t, kvs) => if keyB t i then ofO (kfind kvs i) μ else .bad
  | none => match i with
    | .int i => match d with
      | .str x => if sz x.length then ofO ((atI x.cps.toList i).map fun c => .str ⟨#[c]⟩) μ else .bad
      | d => match seqOf μ d with
        | some xs => ofO (atI xs i) μ
        | none => .bad
    | _ => .bad
def partOf : D → Option (Option Int)
  | .int i => some (some i)
  | _ => none
def cutD (xs : List D) (lo hi : Option Int) : List D := (xs.drop (HT.sIx xs.length 0 lo)).take (HT.sIx xs.length xs.length hi - HT.sIx xs.length 0 lo)
def slS (μ : Store) (d : D) (lo hi : Option Int) : RD := match d with
  | .str x => if sz x.length then .ok (.str (cutS x lo hi)) μ else .bad
  | .tup xs => .ok (.tup (cutD xs lo hi)) μ
  | .wtup xs => if HT.sIx xs.length 0 lo = 0 ∧ HT.sIx xs.length xs.length hi = xs.length then .ok (.wtup xs) μ else .ok (.tup (cutD xs lo hi)) μ
  | d => match lstOf μ d with
    | some xs => .ok (.lst (cutD xs lo hi)) μ
    | none => .bad
def fget : List (Nat × D) → Nat → Option D
  | [], _ => none
  | (k, v) :: r, f => if k = f then some v else fget r f
def fput : List (Nat × D) → Nat → D → List (Nat × D)
  | [], f, w => [(f, w)]
  | (k, v) :: r, f, w => if k = f then (f, w) :: r else (k, v) :: fput r f w
def setIx (μ : Store) (d i v : D) : Option Store := match d with
  | .cell c => match μ[c]? with
    | some (.lst xs) => match i with
      | .int i => (ixN xs.length i).map fun j => μ.set c (.lst (xs.set j v))
      | _ => none
    | some (.dic t kvs) => if keyB t i && sz (kvs.length + 1) then some (μ.set c (.dic t (kput kvs i v))) else none
    | _ => none
  | _ => none
def fokB (fok : List (List Nat)) (c f : Nat) : Bool := (fok.getD c []).contains f
def setFld (fok : List (List Nat)) (μ : Store) (d : D) (f : Nat) (v : D) : Option Store := match d with
  | .cell c => match μ[c]? with
    | some (.ins k fs) => if fokB fok k f && decide (fs.length < 900) then some (μ.set c (.ins k (fput fs f v))) else none
    | _ => none
  | _ => none
def fldS (fok : List (List Nat)) (μ : Store) (o : Option (Nat × List (Nat × D))) (f : Nat) : RD := match o with
    | some (c, fs) => if fokB fok c f then ofO (fget fs f) μ else .bad
    | none => .bad

/-! ### what is walked -/
inductive ITK where
  | seq | rng1 | rng2 | enum | zip | items | rev
  deriving DecidableEq
def inR (i : Int) : Bool := decide (-(2 ^ 62) ≤ i ∧ i < 2 ^ 62)
def enumD : Nat → List D → List D
  | _, [] => []
  | n, x :: r => .tup [.int n, x] :: enumD (n + 1) r
def itemsOf (μ : Store) : ITK → List D → Option (List D)
  | .seq, [d] => match d with
    | .str x => some (signs x)
    | d => match dicOf μ d with
      | some (_, kvs) => some (kvs.map fun (p : D × D) => p.1)
      | none => seqOf μ d
  | .rng1, [.int n] => if inR n then some ((List.range n.toNat).map fun (i : Nat) => D.int (i : Int)) else none
  | .rng2, [.int a, .int b] => if inR a && inR b then some ((List.range (b - a).toNat).map fun (i : Nat) => D.int (a + (i : Int))) else none
  | .enum, [d] => (lstOf μ d).map (enumD 0)
  | .zip, [d, e] => match lstOf μ d, lstOf μ e with
    | some xs, some ys => some ((xs.zip ys).map fun p => .tup [p.1, p.2])
    | _, _ => none
  | .items, [d] => match dicOf μ d with
    | some (_, kvs) => some (kvs.map fun p => .tup [p.1, p.2])
    | _ => none
  | .rev, [d] => (lstOf μ d).map List.reverse
  | _, _ => none

def tagOf (μ : Store) : List D → Bool
  | [d] => (dicOf μ d).isSome
  | _ => false
/-- what is walked is as it was -/
def stayB (μ : Store) (k : ITK) (ds xs : List D) (μ' : Store) : Bool := decide (itemsOf μ' k ds = some xs) && (tagOf μ' ds == tagOf μ ds)
def isClo : Cell → Bool
  | .clo _ _ => true
  | _ => false
def noClo (μ : Store) : Bool := μ.all fun c => !isClo c
def cloAt (μ : Store) (j : Nat) : Bool := match μ[j]? with
  | some (.clo _ _) => true
  | _ => false
/-- a closure in cell j, called: its cell is dead while it runs -/
def cloS (call : Nat → List D → Store → RD) (j : Nat) (ds : List D) (μ : Store) : RD := match μ[j]? with
  | some (.clo f cs) => if noClo (μ.set j .dead) then
      match call f (cs ++ ds) (μ.set j .dead) with
      | .ok d μ2 => .ok d (μ2.set j (.clo f cs))
      | _ => .bad
    else .bad
  | _ => .bad
/-- def g gets d and a new closure; it must not keep it -/
def lamS (call : Nat → List D → Store → RD) (g : Nat) (d : D) (f : Nat) (cs : List D) (μ : Store) : RD := match call g [d, .cell μ.length] (μ ++ [.clo f cs]) with
  | .ok e μ2 => if e.lt μ.length && keeps μ.length μ μ2 && noClo (μ2.take μ.length) then .ok e (μ2.take μ.length) else .bad
  | _ => .bad
/-! ### text -/
inductive TGT where
  | nm (i : Nat) | tp (ts : TGT) | nil | cons (a b : TGT)
inductive CE where
  | lit (d : D) | var (i : Nat) | glo (j : Nat)
  | bin (o : BinO) (a b : CE) | neg (a : CE) | cmp (o : CmpO) (a b : CE) | chn (o o2 : CmpO) (a b c : CE)
  | and (a b : CE) | or (a b : CE) | not (a : CE) | ite (c a b : CE)
  | isi (a : CE) (ts : List Ty)
  | call (f : Nat) (as : CE) (dv : List D) | make (c : Nat) (fz : Bool) (as : CE) (dv : List D) | meth (o : CE) (m : Nat) (as : CE) | sup (f : Nat) (as : CE)
  | bi (b : BI) (as : CE) | bm (b : BM) (o : CE) (as : CE)
  | fld (o : CE) (f : Nat) | ix (o i : CE) | sl (o lo hi : CE) | npt | prt (a : CE) | stp (o s : CE)
  | tup (as : CE) | lst (fz : Bool) (as : CE) | dnew (t fz : Bool) | disp (t fz : Bool) (as : CE)
  | lc (fz : Bool) (k : ITK) (it : CE) (tg : TGT) (c e : CE) (own : List Nat)
  | anil | acons (a r : CE)
  | unk | inr (neg : Bool) (a n : CE)
  | clc (i : Nat) (a : CE) | mlam (o : CE) (m f : Nat) (caps : List Nat) | dlam (g : Nat) (a : CE) (f : Nat) (caps : List Nat)
inductive CS where
  | skip | seq (a b : CS) | asg (tg : TGT) (e : CE) | sfld (o : CE) (f : Nat) (e : CE) | sidx (o i e : CE)
  | aug (i : Nat) (o : BinO) (e : CE) | augf (ob : CE) (f : Nat) (o : BinO) (e : CE)
  | exp (e : CE) | ret (e : CE) | ite (c : CE) (a b : CS)
  | for (k : ITK) (it : CE) (tg : TGT) (b : CS) (clr : List Nat) | while (c : CE) (b : CS) (clr : List Nat)
  | brk | cnt | raise (c : Nat) (as : CE) | try (b : CS) (cs : List Nat) (nm : Option Nat) (h : CS) (els : CS)
  | frz (i : Nat) | clr (vs : List Nat) | frzf (i f : Nat)

abbrev Env := List (Option D)
inductive Sg where
  | nx | rt (d : D) | bk | ct
abbrev RS := Res (Exn × Env) (Sg × Env)
structure FnT where
  np : Nat
  nv : Nat
  body : CS
structure Prog where
  fns : List FnT
  consts : List D
  /-- each class's methods, by the method's number -/
  mth : List (List (Nat × Nat))
  /-- each class's __init__ -/
  init : List (Option Nat)
  sub : List (List Nat)
  /-- each class's fields -/
  fok : List (List Nat)
  fuel : Nat

def getV (env : Env) (i : Nat) : Option D := match env[i]? with
  | some (some d) => some d
  | _ => none
def wipeE : Env → List Nat → Env
  | e, [] => e
  | e, v :: vs => (wipeE e vs).set v none
def asgT : TGT → D → Env → Option Env
  | .nm i, d, env => some (env.set i (some d))
  | .tp ts, d, env => match d with
    | .tup xs => asgTs ts xs env
    | .wtup xs => asgTs ts xs env
    | _ => none
  | _, _, _ => none
where
  asgTs : TGT → List D → Env → Option Env
    | .nil, [], env => some env
    | .cons (.nm i) r, x :: xs, env => asgTs r xs (env.set i (some x))
    | .cons (.tp ts) r, x :: xs, env => match x with
      | .tup ys => (asgTs ts ys env).bind (asgTs r xs)
      | .wtup ys => (asgTs ts ys env).bind (asgTs r xs)
      | _ => none
    | _, _, _ => none
/-- behind a call: the callee's own cells are gone, where nothing names them -/
def leave (μ : Store) (r : RD) : RD := match r with
  | .ok d μ' => if d.lt μ.length && keeps μ.length μ μ' then .ok d (μ'.take μ.length) else .ok d μ'
  | .ex x μ' => if D.ltf μ.length x.fs && keeps μ.length μ μ' then .ex x (μ'.take μ.length) else .ex x μ'
  | .bad => .bad
/-- what stands in a cell, handed out as frozen -/
def thaw (i : Nat) (μ : Store) : Option (D × Store) := match μ[i]? with
  | some (.lst xs) => some (.lst xs, μ.set i .dead)
  | some (.ins c fs) => some (.ins c fs, μ.set i .dead)
  | _ => none
def thawD (i : Nat) (μ : Store) : Option (D × Store) := match μ[i]? with
  | some (.dic t kvs) => some (.dic t kvs, μ.set i .dead)
  | _ => thaw i μ
/-- a way to a thing: nothing new, nothing changed -/
def pathE : CE → Bool
  | .var _ => true
  | .glo _ => true
  | .lit _ => true
  | .fld o _ => pathE o
  | .ix o i => pathE o && pathE i
  | .acons a r => pathE a && pathE r
  | .anil => true
  | _ => false
/-- the dict's cell that is walked -/
def walkedC (μ : Store) : ITK → List D → Option (Nat × Bool × List (D × D))
  | .seq, [.cell i] => match μ[i]? with
    | some (.dic t kvs) => some (i, t, kvs)
    | _ => none
  | .items, [.cell i] => match μ[i]? with
    | some (.dic t kvs) => some (i, t, kvs)
    | _ => none
  | _, _ => none
abbrev RA := Res Exn (List D)
def tru (r : RD) (f : Bool → Store → RD) : RD := r.bind fun d μ => match truth μ d with
  | some b => f b μ
  | none => .bad

def dispS (t : Bool) : List (D × D) → List D → Option (List (D × D))
  | kvs, [] => some kvs
  | kvs, k :: v :: r => if keyB t k then dispS t (kput kvs k v) r else none
  | _, _ => none
/-- (not) in range(n) -/
def inrS (neg : Bool) (d e : D) (μ : Store) : RD := match d, e with
  | .int i, .int n => .ok (.bl (if neg then !decide (0 ≤ i ∧ i < n) else decide (0 ≤ i ∧ i < n))) μ
  | _, _ => .bad
def methOf (P : Prog) (μ : Store) (m : Nat) (d : D) : Option Nat := match insOf μ d with
  | some (c, _) => (P.mth.getD c []).lookup m
  | none => none
section
variable (P : Prog) (call : Nat → List D → Store → RD)
def makeS (c : Nat) (fz : Bool) (ds : List D) (μ : Store) : RD := match P.init.getD c none with
  | none => .bad
  | some f => match call f (.cell μ.length :: ds) (μ ++ [.ins c []]) with
    | .ok .non μ' => if fz then (match thaw μ.length μ' with
      | some (d, μ2) => leave μ (.ok d μ2)
      | none => .bad) else .ok (.cell μ.length) μ'
    | .ok _ _ => .bad
    | .ex x μ' => leave μ (.ex x μ')
    | .bad => .bad
/-- the turns of a comprehension; i: the cell of what is made -/
def lcL (cond : Env → Store → RD) (elt : Env → Store → RD) (tg : TGT) (stay : Store → Bool) (i : Nat) : List D → Env → Store → Res Exn Unit
  | [], _, μ => if stay μ then .ok () μ else .bad
  | x :: r, env, μ => if stay μ then match asgT tg x env with
      | none => .bad
      | some env' => match (cond env' μ).bind (fun d μ => ofO (truth μ d) μ) with
        | .ok true μ1 => match elt env' μ1 with
          | .ok d μ2 => match bmS μ2 .append (.cell i) [d] with
            | .ok _ μ3 => lcL cond elt tg stay i r env μ3
            | _ => .bad
          | _ => .bad
        | .ok false μ1 => lcL cond elt tg stay i r env μ1
        | _ => .bad
    else .bad
/-- the dict's cell that is walked, locked -/
def lockC (w : Nat × Bool × List (D × D)) (μ : Store) : Store := μ.set w.1 (.ldic w.2.1 w.2.2)
def freeC (w : Nat × Bool × List (D × D)) (μ : Store) : Store := μ.set w.1 (.dic w.2.1 w.2.2)
def unlkE (w : Nat × Bool × List (D × D)) (r : RD) : RD := match r with
  | .ok d μ => .ok d (freeC w μ)
  | _ => .bad
def lcS (cond : Env → Store → RD) (elt : Env → Store → RD) (tg : TGT) (own : List Nat) (k : ITK) (ds : List D) (fz : Bool) (env : Env) (μ : Store) : RD := match itemsOf μ k ds with
  | none => .bad
  | some xs => match lcL cond elt tg (stayB μ k ds xs) μ.length xs (wipeE env own) (μ ++ [.lst []]) with
    | .ok _ μ' => if fz then (match thaw μ.length μ' with
      | some (d, μ2) => leave μ (.ok d μ2)
      | none => .bad) else .ok (.cell μ.length) μ'
    | _ => .bad
mutual
def evE : CE → Env → Store → RD
  | .lit d, _, μ => .ok d μ
  | .var i, env, μ => ofO (getV env i) μ
  | .glo j, _, μ => ofO (P.consts[j]?) μ
  | .bin o a b, env, μ => (evE a env μ).bind fun d μ => (evE b env μ).bind fun e μ => binS μ o d e
  | .neg a, env, μ => (evE a env μ).bind fun d μ => match d with
    | .int i => .ok (.int (-i)) μ
    | _ => .bad
  | .cmp o a b, env, μ => (evE a env μ).bind fun d μ => (evE b env μ).bind fun e μ => ofO ((cmpS μ o d e).map D.bl) μ
  | .chn o o2 a b c, env, μ => (evE a env μ).bind fun d μ => (evE b env μ).bind fun e μ => match cmpS μ o d e with
    | some true => (evE c env μ).bind fun f μ => ofO ((cmpS μ o2 e f).map D.bl) μ
    | some false => .ok (.bl false) μ
    | none => .bad
  | .and a b, env, μ => (evE a env μ).bind fun d μ => match truth μ d with
    | some true => evE b env μ
    | some false => .ok d μ
    | none => .bad
  | .or a b, env, μ => (evE a env μ).bind fun d μ => match truth μ d with
    | some true => .ok d μ
    | some false => evE b env μ
    | none => .bad
  | .not a, env, μ => (evE a env μ).bind fun d μ => ofO ((truth μ d).map fun b => .bl (!b)) μ
  | .ite c a b, env, μ => (evE c env μ).bind fun d μ => match truth μ d with
    | some true => evE a env μ
    | some false => evE b env μ
    | none => .bad
  | .isi a ts, env, μ => (evE a env μ).bind fun d μ => ofO ((ts.foldr (fun t r => match isi P.sub μ d t with
      | some true => some true
      | some false => r
      | none => none) (some false)).map D.bl) μ
  | .call f as dv, env, μ => (evA as env μ).bind fun ds μ => call f (ds ++ dv) μ
  | .make c fz as dv, env, μ => (evA as env μ).bind fun ds μ => makeS P call c fz (ds ++ dv) μ
  | .meth o m as, env, μ => (evE o env μ).bind fun d μ => match methOf P μ m d with
    | some f => (evA as env μ).bind fun ds μ => call f (d :: ds) μ
    | none => .bad
  | .sup f as, env, μ => (evA as env μ).bind fun ds μ => call f ds μ
  | .bi b as, env, μ => (evA as env μ).bind fun ds μ => biS μ b ds
  | .bm b o as, env, μ => (evE o env μ).bind fun d μ => if bmTy μ b d then (evA as env μ).bind fun ds μ => bmS μ b d ds else .bad
  | .fld o f, env, μ => (evE o env μ).bind fun d μ => fldS P.fok μ (insOf μ d) f
  | .ix o i, env, μ => (evE o env μ).bind fun d μ => (evE i env μ).bind fun e μ => ixS μ d e
  | .sl o lo hi, env, μ => (evE o env μ).bind fun d μ => (evP lo env μ).bind fun l μ => (evP hi env μ).bind fun h μ => slS μ d l h
  | .npt, _, _ => .bad
  | .prt _, _, _ => .bad
  | .stp o s, env, μ => (evE o env μ).bind fun d μ => (evE s env μ).bind fun e μ => match lstOf μ d, e with
    | some xs, .int i => if i = 1 then .ok (.lst xs) μ else if i = -1 then .ok (.lst xs.reverse) μ else .bad
    | _, _ => .bad
  | .tup as, env, μ => (evA as env μ).bind fun ds μ => .ok (.tup ds) μ
  | .lst fz as, env, μ => (evA as env μ).bind fun ds μ => put μ fz (.lst ds)
  | .dnew t fz, _, μ => put μ fz (.dic t [])
  | .disp t fz as, env, μ => (evA as env μ).bind fun ds μ => match dispS t [] ds with
    | some kvs => if decide (kvs.length ≤ 15) then put μ fz (.dic t kvs) else .bad
    | none => .bad
  | .lc fz k it tg c e own, env, μ => (evA it env μ).bind fun ds μ => match walkedC μ k ds with
    | none => lcS (evE c) (evE e) tg own k ds fz env μ
    | some w => if pathE it then unlkE w (lcS (evE c) (evE e) tg own k ds fz env (lockC w μ)) else .bad
  | .anil, _, _ => .bad
  | .acons _ _, _, _ => .bad
  | .unk, _, _ => .bad
  | .inr neg a n, env, μ => (evE a env μ).bind fun d μ => (evE n env μ).bind fun e μ => inrS neg d e μ
  | .clc i a, env, μ => match getV env i with
    | some (.cell j) => if cloAt μ j then (evE a env μ).bind fun d μ => cloS call j [d] μ else .bad
    | _ => .bad
  | .mlam o m f caps, env, μ => (evE o env μ).bind fun d μ => match methOf P μ m d, caps.mapM (getV env) with
    | some g, some cs => lamS call g d f cs μ
    | _, _ => .bad
  | .dlam g a f caps, env, μ => (evE a env μ).bind fun d μ => match caps.mapM (getV env) with
    | some cs => lamS call g d f cs μ
    | none => .bad
termination_by structural x => x
def evA : CE → Env → Store → RA
  | .anil, _, μ => .ok [] μ
  | .acons a r, env, μ => (evE a env μ).bind fun d μ => (evA r env μ).bind fun ds μ => .ok (d :: ds) μ
  | _, _, _ => .bad
termination_by structural x => x
def evP : CE → Env → Store → Res Exn (Option Int)
  | .npt, _, μ => .ok none μ
  | .prt a, env, μ => (evE a env μ).bind fun d μ => ofO (partOf d) μ
  | _, _, _ => .bad
termination_by structural x => x
end
def lift (env : Env) (r : RD) (f : D → Store → RS) : RS := match r with
  | .ok d μ => f d μ
  | .ex x μ => .ex (x, env) μ
  | .bad => .bad
@[simp] theorem lift_ok (env : Env) (d : D) (μ : Store) (f : D → Store → RS) : lift env (.ok d μ) f = f d μ := rfl
@[simp] theorem lift_ex (env : Env) (d : Exn) (μ : Store) (f : D → Store → RS) : lift env (.ex d μ) f = .ex (d, env) μ := rfl
@[simp] theorem lift_bad (env : Env) (f : D → Store → RS) : lift env .bad f = .bad := rfl
/-- behind a turn: the slots of the turn forgotten; its cells gone, where nothing names them -/
def turnEnd (n : Nat) (μ0 : Store) (clr : List Nat) (env : Env) (μ : Store) (k : Env → Store → RS) : RS :=
  let env' := wipeE env clr
  if (env'.all fun o => match o with
    | some d => d.lt n
    | none => true) && keeps n μ0 μ then k env' (μ.take n) else k env' μ
def forL (body : Env → Store → RS) (tg : TGT) (stay : Store → Bool) (clr : List Nat) : List D → Env → Store → RS
  | [], env, μ => if stay μ then .ok (.nx, env) μ else .bad
  | x :: r, env, μ => if stay μ then match asgT tg x env with
      | none => .bad
      | some env' => match body env' μ with
        | .ok (.nx, env2) μ2 => turnEnd μ.length μ clr env2 μ2 (forL body tg stay clr r)
        | .ok (.ct, env2) μ2 => turnEnd μ.length μ clr env2 μ2 (forL body tg stay clr r)
        | .ok (.bk, env2) μ2 => .ok (.nx, env2) μ2
        | .ok (.rt d, env2) μ2 => .ok (.rt d, env2) μ2
        | .ex x μ2 => .ex x μ2
        | .bad => .bad
    else .bad
def forS (body : Env → Store → RS) (tg : TGT) (k : ITK) (ds : List D) (clr : List Nat) (env : Env) (μ : Store) : RS := match itemsOf μ k ds with
  | some xs => forL body tg (stayB μ k ds xs) clr xs env μ
  | none => .bad
def unlkS (w : Nat × Bool × List (D × D)) (r : RS) : RS := match r with
  | .ok s μ => .ok s (freeC w μ)
  | _ => .bad
def whileL (cond : Env → Store → RD) (body : Env → Store → RS) (clr : List Nat) : Nat → Env → Store → RS
  | 0, _, _ => .bad
  | n + 1, env, μ => lift env (cond env μ) fun d μ1 => match truth μ1 d with
    | none => .bad
    | some false => .ok (.nx, env) μ1
    | some true => match body env μ1 with
      | .ok (.nx, env2) μ2 => turnEnd μ.length μ clr env2 μ2 (whileL cond body clr n)
      | .ok (.ct, env2) μ2 => turnEnd μ.length μ clr env2 μ2 (whileL cond body clr n)
      | .ok (.bk, env2) μ2 => .ok (.nx, env2) μ2
      | .ok (.rt d, env2) μ2 => .ok (.rt d, env2) μ2
      | .ex x μ2 => .ex x μ2
      | .bad => .bad
/-- the list in the field f of the instance in slot i is frozen -/
def frzF (i f : Nat) (env : Env) (μ : Store) : Option Store := match getV env i with
  | some (.cell j) => match μ[j]? with
    | some (.ins c fs) => match fget fs f with
      | some (.cell k) => match μ[k]? with
        | some (.lst xs) => if k = j then none else some ((μ.set k .dead).set j (.ins c (fput fs f (.lst xs))))
        | _ => none
      | _ => none
    | _ => none
  | _ => none
def evS : CS → Env → Store → RS
  | .skip, env, μ => .ok (.nx, env) μ
  | .seq a b, env, μ => match evS a env μ with
    | .ok (.nx, env') μ' => evS b env' μ'
    | .ok (.rt d, env') μ' => .ok (.rt d, env') μ'
    | .ok (.bk, env') μ' => .ok (.bk, env') μ'
    | .ok (.ct, env') μ' => .ok (.ct, env') μ'
    | .ex x μ' => .ex x μ'
    | .bad => .bad
  | .asg tg e, env, μ => lift env (evE P call e env μ) fun d μ => ofO ((asgT tg d env).map fun env' => (.nx, env')) μ
  | .sfld o f e, env, μ => lift env (evE P call e env μ) fun v μ => lift env (evE P call o env μ) fun d μ => match setFld P.fok μ d f v with
    | some μ' => .ok (.nx, env) μ'
    | none => .bad
  | .sidx o i e, env, μ => lift env (evE P call e env μ) fun v μ => lift env (evE P call o env μ) fun d μ => lift env (evE P call i env μ) fun k μ => match setIx μ d k v with
    | some μ' => .ok (.nx, env) μ'
    | none => .bad
  | .aug i o e, env, μ => match getV env i with
    | none => .bad
    | some x => lift env (evE P call e env μ) fun y μ => match x, y with
      | .int _, .int _ => lift env (binS μ o x y) fun z μ => .ok (.nx, env.set i (some z)) μ
      | _, _ => .bad
  | .augf ob f o e, env, μ => lift env (evE P call ob env μ) fun d μ => match insOf μ d with
    | none => .bad
    | some (_, fs) => match fget fs f with
      | none => .bad
      | some x => lift env (evE P call e env μ) fun y μ => match x, y with
        | .int _, .int _ => lift env (binS μ o x y) fun z μ => match setFld P.fok μ d f z with
          | some μ' => .ok (.nx, env) μ'
          | none => .bad
        | _, _ => .bad
  | .exp e, env, μ => lift env (evE P call e env μ) fun _ μ => .ok (.nx, env) μ
  | .ret e, env, μ => lift env (evE P call e env μ) fun d μ => .ok (.rt d, env) μ
  | .ite c a b, env, μ => lift env (evE P call c env μ) fun d μ => match truth μ d with
    | some true => evS a env μ
    | some false => evS b env μ
    | none => .bad
  | .for k it tg b clr, env, μ => match evA P call it env μ with
    | .ok ds μ => match walkedC μ k ds with
      | none => forS (evS b) tg k ds clr env μ
      | some w => if pathE it then unlkS w (forS (evS b) tg k ds clr env (lockC w μ)) else .bad
    | .ex x μ => .ex (x, env) μ
    | .bad => .bad
  | .while c b clr, env, μ => whileL (evE P call c) (evS b) clr P.fuel env μ
  | .brk, env, μ => .ok (.bk, env) μ
  | .cnt, env, μ => .ok (.ct, env) μ
  | .raise _ _, _, _ => .bad
  | .try b cs nm h els, env, μ => match evS b env μ with
    | .ok (.nx, env') μ' => evS els env' μ'
    | .ok (.rt d, env') μ' => .ok (.rt d, env') μ'
    | .ok (.bk, env') μ' => .ok (.bk, env') μ'
    | .ok (.ct, env') μ' => .ok (.ct, env') μ'
    | .ex _ _ => .bad
    | .bad => .bad
  | .frz i, env, μ => match getV env i with
    | some (.cell j) => match thawD j μ with
      | some (d, μ') => .ok (.nx, env.set i (some d)) μ'
      | none => .bad
    | some _ => .ok (.nx, env) μ
    | none => .bad
  | .clr vs, env, μ => .ok (.nx, wipeE env vs) μ
  | .frzf i f, env, μ => match frzF i f env μ with
    | some μ' => .ok (.nx, env) μ'
    | none => .bad
end
/-- how a def's body ends -/
def fin (r : RS) : RD := match r with
  | .ok (.nx, _) μ' => .ok .non μ'
  | .ok (.rt d, _) μ' => .ok d μ'
  | .ok (.bk, _) _ => .bad
  | .ok (.ct, _) _ => .bad
  | .ex (x, _) μ' => .ex x μ'
  | .bad => .bad
@[simp] theorem fin_nx (e : Env) (μ : Store) : fin (.ok (.nx, e) μ) = .ok .non μ := rfl
@[simp] theorem fin_rt (d : D) (e : Env) (μ : Store) : fin (.ok (.rt d, e) μ) = .ok d μ := rfl
@[simp] theorem fin_ex (x : Exn) (e : Env) (μ : Store) : fin (.ex (x, e) μ) = .ex x μ := rfl
/-- a def called: n calls deep at most -/
def run (P : Prog) : Nat → Nat → List D → Store → RD
  | 0, _, _, _ => .bad
  | n + 1, f, ds, μ => match P.fns[f]? with
    | none => .bad
    | some F => if F.np = ds.length then leave μ (fin (evS P (run P n) F.body (ds.map some ++ List.replicate (F.nv - F.np) none) μ)) else .bad
theorem run_def {P : Prog} {n f : Nat} {ds : List D} {μ : Store} {F : FnT} (h : P.fns[f]? = some F) (hl : F.np = ds.length) : run P (n + 1) f ds μ = leave μ (fin (evS P (run P n) F.body (ds.map some ++ List.replicate (F.nv - F.np) none) μ)) := by
  unfold run
  rw [h]
  exact if_pos hl
/-! ### for proofs -/
mutual
theorem D.lt_mono {n m : Nat} (h : n ≤ m) : ∀ d : D, d.lt n = true → d.lt m = true
  | .non, _ => rfl
  | .bl _, _ => rfl
  | .int _, _ => rfl
  | .str _, _ => rfl
  | .tup xs, e => D.lts_mono h xs e
  | .lst xs, e => D.lts_mono h xs e
  | .wtup xs, e => D.lts_mono h xs e
  | .dic _ xs, e => D.ltp_mono h xs e
  | .ins _ xs, e => D.ltf_mono h xs e
  | .cell i, e => by
    simp only [D.lt, decide_eq_true_eq] at e ⊢
    omega
theorem D.lts_mono {n m : Nat} (h : n ≤ m) : ∀ d : List D, D.lts n d = true → D.lts m d = true
  | [], _ => rfl
  | x :: r, e => by
    simp only [D.lts, Bool.and_eq_true] at e ⊢
    exact ⟨D.lt_mono h x e.1, D.lts_mono h r e.2⟩
theorem D.ltp_mono {n m : Nat} (h : n ≤ m) : ∀ d : List (D × D), D.ltp n d = true → D.ltp m d = true
  | [], _ => rfl
  | x :: r, e => by
    simp only [D.ltp, Bool.and_eq_true] at e ⊢
    exact ⟨D.ltq_mono h x e.1, D.ltp_mono h r e.2⟩
theorem D.ltq_mono {n m : Nat} (h : n ≤ m) : ∀ d : D × D, D.ltq n d = true → D.ltq m d = true
  | (k, v), e => by
    simp only [D.ltq, Bool.and_eq_true] at e ⊢
    exact ⟨D.lt_mono h k e.1, D.lt_mono h v e.2⟩
theorem D.ltf_mono {n m : Nat} (h : n ≤ m) : ∀ d : List (Nat × D), D.ltf n d = true → D.ltf m d = true
  | [], _ => rfl
  | x :: r, e => by
    simp only [D.ltf, Bool.and_eq_true] at e ⊢
    exact ⟨D.ltg_mono h x e.1, D.ltf_mono h r e.2⟩
theorem D.ltg_mono {n m : Nat} (h : n ≤ m) : ∀ d : Nat × D, D.ltg n d = true → D.ltg m d = true
  | (k, v), e => by
    simp only [D.ltg] at e ⊢
    exact D.lt_mono h v e
end
theorem keeps_refl (n : Nat) : ∀ μ t : Store, keeps n μ (μ ++ t) = true
  | [], _ => rfl
  | c :: r, t => by
    show ((decide (c = c) || c.lt n) && keeps n r (r ++ t)) = true
    rw [keeps_refl n r t]
    simp
@[simp] theorem keeps_self (n : Nat) (μ : Store) : keeps n μ μ = true := by
  have h := keeps_refl n μ []
  rwa [List.append_nil] at h
@[simp] theorem keeps_app (n : Nat) (μ t : Store) : keeps n μ (μ ++ t) = true := keeps_refl n μ t
theorem leave_ok {μ t : Store} {d : D} (h : d.lt μ.length = true) : leave μ (.ok d (μ ++ t)) = .ok d μ := by
  show (if d.lt μ.length && keeps μ.length μ (μ ++ t) then _ else _) = _
  rw [h, keeps_refl]
  simp
theorem leave_self {μ : Store} {d : D} (h : d.lt μ.length = true) : leave μ (.ok d μ) = .ok d μ := by
  have e := leave_ok (t := []) h
  rwa [List.append_nil] at e
@[simp] theorem lt_non (n : Nat) : D.non.lt n = true := (rfl)
@[simp] theorem lt_bl (n : Nat) (b : Bool) : (D.bl b).lt n = true := (rfl)
@[simp] theorem lt_int (n : Nat) (b : Int) : (D.int b).lt n = true := (rfl)
@[simp] theorem lt_str (n : Nat) (b : Str) : (D.str b).lt n = true := (rfl)
@[simp] theorem lt_tup (n : Nat) (b : List D) : (D.tup b).lt n = D.lts n b := (rfl)
@[simp] theorem lt_lst (n : Nat) (b : List D) : (D.lst b).lt n = D.lts n b := (rfl)
@[simp] theorem lt_dic (n : Nat) (t : Bool) (b : List (D × D)) : (D.dic t b).lt n = D.ltp n b := (rfl)
@[simp] theorem lt_ins (n : Nat) (t : Nat) (b : List (Nat × D)) : (D.ins t b).lt n = D.ltf n b := (rfl)
@[simp] theorem lt_cell (n i : Nat) : (D.cell i).lt n = decide (i < n) := (rfl)
@[simp] theorem lts_nil (n : Nat) : D.lts n [] = true := (rfl)
@[simp] theorem lts_cons (n : Nat) (x : D) (r : List D) : D.lts n (x :: r) = (x.lt n && D.lts n r) := (rfl)
@[simp] theorem lts_append (n : Nat) : ∀ a b : List D, D.lts n (a ++ b) = (D.lts n a && D.lts n b)
  | [], b => by simp
  | x :: a, b => by simp [lts_append n a b, Bool.and_assoc]
theorem lts_map {α : Type} (n : Nat) (f : α → D) : ∀ l : List α, (∀ x ∈ l, (f x).lt n = true) → D.lts n (l.map f) = true
  | [], _ => rfl
  | x :: r, h => by
    simp only [List.map_cons, lts_cons, Bool.and_eq_true]
    exact ⟨h x List.mem_cons_self, lts_map n f r fun y hy => h y (List.mem_cons_of_mem _ hy)⟩
@[simp] theorem lts_int (n : Nat) (l : List Int) : D.lts n (l.map D.int) = true := lts_map n D.int l fun _ _ => rfl
@[simp] theorem lts_str (n : Nat) (l : List Str) : D.lts n (l.map D.str) = true := lts_map n D.str l fun _ _ => rfl
@[simp] theorem ltp_nil (n : Nat) : D.ltp n [] = true := (rfl)
@[simp] theorem ltp_cons (n : Nat) (x : D × D) (r : List (D × D)) : D.ltp n (x :: r) = (x.1.lt n && x.2.lt n && D.ltp n r) := by cases x; rfl
@[simp] theorem ltf_nil (n : Nat) : D.ltf n [] = true := (rfl)
@[simp] theorem ltf_cons (n : Nat) (x : Nat × D) (r : List (Nat × D)) : D.ltf n (x :: r) = (x.2.lt n && D.ltf n r) := by cases x; rfl
end Co

set_option linter.all false
set_option maxRecDepth 100000
/-! Co3: the evaluator's equations for proofs: first-order continuations, so that simp never goes under a binder. -/
namespace Co
open PySem L2
section
variable (P : Prog) (call : Nat → List D → Store → RD)
def kBin2 (o : BinO) (d : D) (r : RD) : RD := r.bind fun e μ => binS μ o d e
def kBin (o : BinO) (b : CE) (env : Env) (r : RD) : RD := r.bind fun d μ => kBin2 o d (evE P call b env μ)
def kNeg (r : RD) : RD := r.bind fun d μ => match d with
    | .int i => .ok (.int (-i)) μ
    | _ => .bad
def kCmp2 (o : CmpO) (d : D) (r : RD) : RD := r.bind fun e μ => ofO ((cmpS μ o d e).map D.bl) μ
def kCmp (o : CmpO) (b : CE) (env : Env) (r : RD) : RD := r.bind fun d μ => kCmp2 o d (evE P call b env μ)
def kChn3 (b : Option Bool) (o2 : CmpO) (e : D) (c : CE) (env : Env) (μ : Store) : RD := match b with
    | some true => (evE P call c env μ).bind fun f μ => ofO ((cmpS μ o2 e f).map D.bl) μ
    | some false => .ok (.bl false) μ
    | none => .bad
def kChn2 (o o2 : CmpO) (d : D) (c : CE) (env : Env) (r : RD) : RD := r.bind fun e μ => kChn3 P call (cmpS μ o d e) o2 e c env μ
def kChn (o o2 : CmpO) (b c : CE) (env : Env) (r : RD) : RD := r.bind fun d μ => kChn2 P call o o2 d c env (evE P call b env μ)
def kAnd2 (d : D) (c : Option Bool) (b : CE) (env : Env) (μ : Store) : RD := match c with
    | some true => evE P call b env μ
    | some false => .ok d μ
    | none => .bad
def kAnd (b : CE) (env : Env) (r : RD) : RD := r.bind fun d μ => kAnd2 P call d (truth μ d) b env μ
def kOr2 (d : D) (c : Option Bool) (b : CE) (env : Env) (μ : Store) : RD := match c with
    | some true => .ok d μ
    | some false => evE P call b env μ
    | none => .bad
def kOr (b : CE) (env : Env) (r : RD) : RD := r.bind fun d μ => kOr2 P call d (truth μ d) b env μ
def kNot (r : RD) : RD := r.bind fun d μ => ofO ((truth μ d).map fun b => .bl (!b)) μ
def kIteE2 (c : Option Bool) (a b : CE) (env : Env) (μ : Store) : RD := match c with
    | some true => evE P call a env μ
    | some false => evE P call b env μ
    | none => .bad
def kIteE (a b : CE) (env : Env) (r : RD) : RD := r.bind fun d μ => kIteE2 P call (truth μ d) a b env μ
def isiS (sub : List (List Nat)) (μ : Store) (d : D) (ts : List Ty) : Option Bool := ts.foldr (fun t r => match isi sub μ d t with
      | some true => some true
      | some false => r
      | none => none) (some false)
def kIsi (ts : List Ty) (r : RD) : RD := r.bind fun d μ => ofO ((isiS P.sub μ d ts).map D.bl) μ
def kCall (f : Nat) (dv : List D) (r : RA) : RD := r.bind fun ds μ => call f (ds ++ dv) μ
def kMake (c : Nat) (fz : Bool) (dv : List D) (r : RA) : RD := r.bind fun ds μ => makeS P call c fz (ds ++ dv) μ
def kMeth3 (f : Nat) (d : D) (r : RA) : RD := r.bind fun ds μ => call f (d :: ds) μ
def kMeth2 (o : Option Nat) (d : D) (as : CE) (env : Env) (μ : Store) : RD := match o with
    | some f => (evA P call as env μ).bind fun ds μ => call f (d :: ds) μ
    | none => .bad
def kMeth (m : Nat) (as : CE) (env : Env) (r : RD) : RD := r.bind fun d μ => kMeth2 P call (methOf P μ m d) d as env μ
def kSup (f : Nat) (r : RA) : RD := r.bind fun ds μ => call f ds μ
def kBi (b : BI) (r : RA) : RD := r.bind fun ds μ => biS μ b ds
def kBm3 (b : BM) (d : D) (r : RA) : RD := r.bind fun ds μ => bmS μ b d ds
def kBm2 (t : Bool) (b : BM) (d : D) (as : CE) (env : Env) (μ : Store) : RD := if t then (evA P call as env μ).bind fun ds μ => bmS μ b d ds else .bad
def kBm (b : BM) (as : CE) (env : Env) (r : RD) : RD := r.bind fun d μ => kBm2 P call (bmTy μ b d) b d as env μ
def kFld (f : Nat) (r : RD) : RD := r.bind fun d μ => fldS P.fok μ (insOf μ d) f
def kIx2 (d : D) (r : RD) : RD := r.bind fun e μ => ixS μ d e
def kIx (i : CE) (env : Env) (r : RD) : RD := r.bind fun d μ => kIx2 d (evE P call i env μ)
def kPrt (r : RD) : Res Exn (Option Int) := r.bind fun d μ => ofO (partOf d) μ
def kSl3 (d : D) (l : Option Int) (r : Res Exn (Option Int)) : RD := r.bind fun h μ => slS μ d l h
def kSl2 (d : D) (hi : CE) (env : Env) (r : Res Exn (Option Int)) : RD := r.bind fun l μ => kSl3 d l (evP P call hi env μ)
def kSl (lo hi : CE) (env : Env) (r : RD) : RD := r.bind fun d μ => kSl2 P call d hi env (evP P call lo env μ)
def stpS (μ : Store) (o : Option (List D)) (e : D) : RD := match o, e with
    | some xs, .int i => if i = 1 then .ok (.lst xs) μ else if i = -1 then .ok (.lst xs.reverse) μ else .bad
    | _, _ => .bad
def kStp2 (d : D) (r : RD) : RD := r.bind fun e μ => stpS μ (lstOf μ d) e
def kStp (s : CE) (env : Env) (r : RD) : RD := r.bind fun d μ => kStp2 d (evE P call s env μ)
def kTup (r : RA) : RD := r.bind fun ds μ => .ok (.tup ds) μ
def kLst (fz : Bool) (r : RA) : RD := r.bind fun ds μ => put μ fz (.lst ds)
def dispP (t fz : Bool) (μ : Store) (o : Option (List (D × D))) : RD := match o with
    | some kvs => if decide (kvs.length ≤ 15) then put μ fz (.dic t kvs) else .bad
    | none => .bad
def kDisp (t fz : Bool) (r : RA) : RD := r.bind fun ds μ => dispP t fz μ (dispS t [] ds)
def kLc1 (ok : Bool) (fz : Bool) (k : ITK) (ds : List D) (w : Option (Nat × Bool × List (D × D))) (tg : TGT) (c e : CE) (own : List Nat) (env : Env) (μ : Store) : RD := match w with
    | none => lcS (evE P call c) (evE P call e) tg own k ds fz env μ
    | some w => if ok then unlkE w (lcS (evE P call c) (evE P call e) tg own k ds fz env (lockC w μ)) else .bad
def kLc (ok fz : Bool) (k : ITK) (tg : TGT) (c e : CE) (own : List Nat) (env : Env) (r : RA) : RD := r.bind fun ds μ => kLc1 P call ok fz k ds (walkedC μ k ds) tg c e own env μ
def kInr2 (neg : Bool) (d : D) (r : RD) : RD := r.bind fun e μ => inrS neg d e μ
def kInr (neg : Bool) (n : CE) (env : Env) (r : RD) : RD := r.bind fun d μ => kInr2 neg d (evE P call n env μ)
def kCons2 (d : D) (r : RA) : RA := r.bind fun ds μ => .ok (d :: ds) μ
def kCons (r : CE) (env : Env) (x : RD) : RA := x.bind fun d μ => kCons2 d (evA P call r env μ)

@[simp] theorem evE_lit (d : D) (env : Env) (μ : Store) : evE P call (.lit d) env μ = .ok d μ := (rfl)
@[simp] theorem evE_var (i : Nat) (env : Env) (μ : Store) : evE P call (.var i) env μ = ofO (getV env i) μ := (rfl)
@[simp] theorem evE_glo (i : Nat) (env : Env) (μ : Store) : evE P call (.glo i) env μ = ofO (P.consts[i]?) μ := (rfl)
@[simp] theorem evE_bin (o : BinO) (a b : CE) (env : Env) (μ : Store) : evE P call (.bin o a b) env μ = kBin P call o b env (evE P call a env μ) := (rfl)
@[simp] theorem evE_neg (a : CE) (env : Env) (μ : Store) : evE P call (.neg a) env μ = kNeg (evE P call a env μ) := (rfl)
@[simp] theorem evE_cmp (o : CmpO) (a b : CE) (env : Env) (μ : Store) : evE P call (.cmp o a b) env μ = kCmp P call o b env (evE P call a env μ) := (rfl)
@[simp] theorem evE_chn (o o2 : CmpO) (a b c : CE) (env : Env) (μ : Store) : evE P call (.chn o o2 a b c) env μ = kChn P call o o2 b c env (evE P call a env μ) := (rfl)
@[simp] theorem evE_and (a b : CE) (env : Env) (μ : Store) : evE P call (.and a b) env μ = kAnd P call b env (evE P call a env μ) := (rfl)
@[simp] theorem evE_or (a b : CE) (env : Env) (μ : Store) : evE P call (.or a b) env μ = kOr P call b env (evE P call a env μ) := (rfl)
@[simp] theorem evE_not (a : CE) (env : Env) (μ : Store) : evE P call (.not a) env μ = kNot (evE P call a env μ) := (rfl)
@[simp] theorem evE_ite (c a b : CE) (env : Env) (μ : Store) : evE P call (.ite c a b) env μ = kIteE P call a b env (evE P call c env μ) := (rfl)
@[simp] theorem evE_isi (a : CE) (ts : List Ty) (env : Env) (μ : Store) : evE P call (.isi a ts) env μ = kIsi P ts (evE P call a env μ) := (rfl)
@[simp] theorem evE_call (f : Nat) (a : CE) (dv : List D) (env : Env) (μ : Store) : evE P call (.call f a dv) env μ = kCall call f dv (evA P call a env μ) := (rfl)
@[simp] theorem evE_make (c : Nat) (fz : Bool) (a : CE) (dv : List D) (env : Env) (μ : Store) : evE P call (.make c fz a dv) env μ = kMake P call c fz dv (evA P call a env μ) := (rfl)
@[simp] theorem evE_meth (o : CE) (m : Nat) (a : CE) (env : Env) (μ : Store) : evE P call (.meth o m a) env μ = kMeth P call m a env (evE P call o env μ) := (rfl)
@[simp] theorem evE_sup (f : Nat) (a : CE) (env : Env) (μ : Store) : evE P call (.sup f a) env μ = kSup call f (evA P call a env μ) := (rfl)
@[simp] theorem evE_bi (b : BI) (a : CE) (env : Env) (μ : Store) : evE P call (.bi b a) env μ = kBi b (evA P call a env μ) := (rfl)
@[simp] theorem evE_bm (b : BM) (o a : CE) (env : Env) (μ : Store) : evE P call (.bm b o a) env μ = kBm P call b a env (evE P call o env μ) := (rfl)
@[simp] theorem evE_fld (o : CE) (f : Nat) (env : Env) (μ : Store) : evE P call (.fld o f) env μ = kFld P f (evE P call o env μ) := (rfl)
@[simp] theorem evE_ix (o i : CE) (env : Env) (μ : Store) : evE P call (.ix o i) env μ = kIx P call i env (evE P call o env μ) := (rfl)
@[simp] theorem evE_sl (o l h : CE) (env : Env) (μ : Store) : evE P call (.sl o l h) env μ = kSl P call l h env (evE P call o env μ) := (rfl)
@[simp] theorem evE_stp (o s : CE) (env : Env) (μ : Store) : evE P call (.stp o s) env μ = kStp P call s env (evE P call o env μ) := (rfl)
@[simp] theorem evE_tup (a : CE) (env : Env) (μ : Store) : evE P call (.tup a) env μ = kTup (evA P call a env μ) := (rfl)
@[simp] theorem evE_lst (fz : Bool) (a : CE) (env : Env) (μ : Store) : evE P call (.lst fz a) env μ = kLst fz (evA P call a env μ) := (rfl)
@[simp] theorem evE_dnew (t fz : Bool) (env : Env) (μ : Store) : evE P call (.dnew t fz) env μ = put μ fz (.dic t []) := (rfl)
@[simp] theorem evE_disp (t fz : Bool) (a : CE) (env : Env) (μ : Store) : evE P call (.disp t fz a) env μ = kDisp t fz (evA P call a env μ) := (rfl)
@[simp] theorem evE_lc (fz : Bool) (k : ITK) (it : CE) (tg : TGT) (c e : CE) (own : List Nat) (env : Env) (μ : Store) : evE P call (.lc fz k it tg c e own) env μ = kLc P call (pathE it) fz k tg c e own env (evA P call it env μ) := (rfl)
@[simp] theorem evE_inr (neg : Bool) (a n : CE) (env : Env) (μ : Store) : evE P call (.inr neg a n) env μ = kInr P call neg n env (evE P call a env μ) := (rfl)
@[simp] theorem evP_npt (env : Env) (μ : Store) : evP P call .npt env μ = .ok none μ := (rfl)
@[simp] theorem evP_prt (a : CE) (env : Env) (μ : Store) : evP P call (.prt a) env μ = kPrt (evE P call a env μ) := (rfl)
@[simp] theorem evA_nil (env : Env) (μ : Store) : evA P call .anil env μ = .ok [] μ := (rfl)
@[simp] theorem evA_cons (a r : CE) (env : Env) (μ : Store) : evA P call (.acons a r) env μ = kCons P call r env (evE P call a env μ) := (rfl)

variable (d e l h : D) (ds : List D) (μ : Store) (x : Exn)
@[simp] theorem kBin_ok (o : BinO) (b : CE) (env : Env) : kBin P call o b env (.ok d μ) = kBin2 o d (evE P call b env μ) := (rfl)
@[simp] theorem kBin2_ok (o : BinO) : kBin2 o d (.ok e μ) = binS μ o d e := (rfl)
@[simp] theorem kNeg_ok (i : Int) : kNeg (.ok (.int i) μ) = .ok (.int (-i)) μ := (rfl)
@[simp] theorem kCmp_ok (o : CmpO) (b : CE) (env : Env) : kCmp P call o b env (.ok d μ) = kCmp2 o d (evE P call b env μ) := (rfl)
@[simp] theorem kCmp2_ok (o : CmpO) : kCmp2 o d (.ok e μ) = ofO ((cmpS μ o d e).map D.bl) μ := (rfl)
@[simp] theorem kChn_ok (o o2 : CmpO) (b c : CE) (env : Env) : kChn P call o o2 b c env (.ok d μ) = kChn2 P call o o2 d c env (evE P call b env μ) := (rfl)
@[simp] theorem kChn2_ok (o o2 : CmpO) (c : CE) (env : Env) : kChn2 P call o o2 d c env (.ok e μ) = kChn3 P call (cmpS μ o d e) o2 e c env μ := (rfl)
@[simp] theorem kChn3_t (o2 : CmpO) (c : CE) (env : Env) : kChn3 P call (some true) o2 e c env μ = kCmp2 o2 e (evE P call c env μ) := (rfl)
@[simp] theorem kChn3_f (o2 : CmpO) (c : CE) (env : Env) : kChn3 P call (some false) o2 e c env μ = .ok (.bl false) μ := (rfl)
@[simp] theorem kAnd_ok (b : CE) (env : Env) : kAnd P call b env (.ok d μ) = kAnd2 P call d (truth μ d) b env μ := (rfl)
@[simp] theorem kAnd2_t (b : CE) (env : Env) : kAnd2 P call d (some true) b env μ = evE P call b env μ := (rfl)
@[simp] theorem kAnd2_f (b : CE) (env : Env) : kAnd2 P call d (some false) b env μ = .ok d μ := (rfl)
@[simp] theorem kOr_ok (b : CE) (env : Env) : kOr P call b env (.ok d μ) = kOr2 P call d (truth μ d) b env μ := (rfl)
@[simp] theorem kOr2_t (b : CE) (env : Env) : kOr2 P call d (some true) b env μ = .ok d μ := (rfl)
@[simp] theorem kOr2_f (b : CE) (env : Env) : kOr2 P call d (some false) b env μ = evE P call b env μ := (rfl)
@[simp] theorem kNot_ok : kNot (.ok d μ) = ofO ((truth μ d).map fun b => .bl (!b)) μ := (rfl)
@[simp] theorem kIteE_ok (a b : CE) (env : Env) : kIteE P call a b env (.ok d μ) = kIteE2 P call (truth μ d) a b env μ := (rfl)
@[simp] theorem kIteE2_t (a b : CE) (env : Env) : kIteE2 P call (some true) a b env μ = evE P call a env μ := (rfl)
@[simp] theorem kIteE2_f (a b : CE) (env : Env) : kIteE2 P call (some false) a b env μ = evE P call b env μ := (rfl)
@[simp] theorem kIsi_ok (ts : List Ty) : kIsi P ts (.ok d μ) = ofO ((isiS P.sub μ d ts).map D.bl) μ := (rfl)
@[simp] theorem kCall_ok (f : Nat) (dv : List D) : kCall call f dv (.ok ds μ) = call f (ds ++ dv) μ := (rfl)
@[simp] theorem kMake_ok (c : Nat) (fz : Bool) (dv : List D) : kMake P call c fz dv (.ok ds μ) = makeS P call c fz (ds ++ dv) μ := (rfl)
@[simp] theorem kMeth_ok (m : Nat) (a : CE) (env : Env) : kMeth P call m a env (.ok d μ) = kMeth2 P call (methOf P μ m d) d a env μ := (rfl)
@[simp] theorem kMeth2_some (f : Nat) (a : CE) (env : Env) : kMeth2 P call (some f) d a env μ = kMeth3 call f d (evA P call a env μ) := (rfl)
@[simp] theorem kMeth3_ok (f : Nat) : kMeth3 call f d (.ok ds μ) = call f (d :: ds) μ := (rfl)
theorem methOf_ins (m c : Nat) (fs : List (Nat × D)) : methOf P μ m (.ins c fs) = (P.mth.getD c []).lookup m := rfl
@[simp] theorem kSup_ok (f : Nat) : kSup call f (.ok ds μ) = call f ds μ := (rfl)
@[simp] theorem kBi_ok (b : BI) : kBi b (.ok ds μ) = biS μ b ds := (rfl)
@[simp] theorem kBm_ok (b : BM) (a : CE) (env : Env) : kBm P call b a env (.ok d μ) = kBm2 P call (bmTy μ b d) b d a env μ := (rfl)
@[simp] theorem kBm2_t (b : BM) (a : CE) (env : Env) : kBm2 P call true b d a env μ = kBm3 b d (evA P call a env μ) := (rfl)
@[simp] theorem kBm3_ok (b : BM) : kBm3 b d (.ok ds μ) = bmS μ b d ds := (rfl)
@[simp] theorem kFld_ok (f : Nat) : kFld P f (.ok d μ) = fldS P.fok μ (insOf μ d) f := (rfl)
theorem fldS_some {fok : List (List Nat)} {c f : Nat} (h : fokB fok c f = true) (fs : List (Nat × D)) : fldS fok μ (some (c, fs)) f = ofO (fget fs f) μ := if_pos h
@[simp] theorem kIx_ok (i : CE) (env : Env) : kIx P call i env (.ok d μ) = kIx2 d (evE P call i env μ) := (rfl)
@[simp] theorem kIx2_ok : kIx2 d (.ok e μ) = ixS μ d e := (rfl)
@[simp] theorem kSl_ok (lo hi : CE) (env : Env) : kSl P call lo hi env (.ok d μ) = kSl2 P call d hi env (evP P call lo env μ) := (rfl)
@[simp] theorem kSl2_ok (hi : CE) (env : Env) (l : Option Int) : kSl2 P call d hi env (.ok l μ) = kSl3 d l (evP P call hi env μ) := (rfl)
@[simp] theorem kSl3_ok (l h : Option Int) : kSl3 d l (.ok h μ) = slS μ d l h := (rfl)
@[simp] theorem kPrt_ok (i : Int) : kPrt (.ok (.int i) μ) = .ok (some i) μ := (rfl)
@[simp] theorem kStp_ok (s : CE) (env : Env) : kStp P call s env (.ok d μ) = kStp2 d (evE P call s env μ) := (rfl)
@[simp] theorem kStp2_ok : kStp2 d (.ok e μ) = stpS μ (lstOf μ d) e := (rfl)
@[simp] theorem kTup_ok : kTup (.ok ds μ) = .ok (.tup ds) μ := (rfl)
@[simp] theorem kLst_ok (fz : Bool) : kLst fz (.ok ds μ) = put μ fz (.lst ds) := (rfl)
@[simp] theorem kDisp_ok (t fz : Bool) : kDisp t fz (.ok ds μ) = dispP t fz μ (dispS t [] ds) := (rfl)
@[simp] theorem kLc_ok (ok fz : Bool) (k : ITK) (tg : TGT) (c e : CE) (own : List Nat) (env : Env) : kLc P call ok fz k tg c e own env (.ok ds μ) = kLc1 P call ok fz k ds (walkedC μ k ds) tg c e own env μ := (rfl)
@[simp] theorem kLc1_none (ok fz : Bool) (k : ITK) (tg : TGT) (c e : CE) (own : List Nat) (env : Env) : kLc1 P call ok fz k ds none tg c e own env μ = lcS (evE P call c) (evE P call e) tg own k ds fz env μ := (rfl)
@[simp] theorem kInr_ok (neg : Bool) (n : CE) (env : Env) : kInr P call neg n env (.ok d μ) = kInr2 neg d (evE P call n env μ) := (rfl)
@[simp] theorem kInr2_ok (neg : Bool) (i n : Int) : kInr2 neg (.int i) (.ok (.int n) μ) = .ok (.bl (if neg then !decide (0 ≤ i ∧ i < n) else decide (0 ≤ i ∧ i < n))) μ := (rfl)
@[simp] theorem kCons_ok (r : CE) (env : Env) : kCons P call r env (.ok d μ) = kCons2 d (evA P call r env μ) := (rfl)
@[simp] theorem kCons2_ok : kCons2 d (.ok ds μ) = .ok (d :: ds) μ := (rfl)

/-! ### statements -/
def kSeq (b : CS) (r : RS) : RS := match r with
    | .ok (.nx, env') μ' => evS P call b env' μ'
    | .ok (.rt d, env') μ' => .ok (.rt d, env') μ'
    | .ok (.bk, env') μ' => .ok (.bk, env') μ'
    | .ok (.ct, env') μ' => .ok (.ct, env') μ'
    | .ex x μ' => .ex x μ'
    | .bad => .bad
def nxO (o : Option Env) (μ : Store) : RS := ofO (o.map fun env' => (.nx, env')) μ
def kAsg (tg : TGT) (env : Env) (r : RD) : RS := lift env r fun d μ => nxO (asgT tg d env) μ
def nxM (env : Env) (o : Option Store) : RS := match o with
      | some μ' => .ok (.nx, env) μ'
      | none => .bad
def kSfld2 (f : Nat) (v : D) (env : Env) (r : RD) : RS := lift env r fun d μ => nxM env (setFld P.fok μ d f v)
def kSfld (o : CE) (f : Nat) (env : Env) (r : RD) : RS := lift env r fun v μ => kSfld2 P f v env (evE P call o env μ)
def kSidx3 (v d : D) (env : Env) (r : RD) : RS := lift env r fun k μ => nxM env (setIx μ d k v)
def kSidx2 (v : D) (i : CE) (env : Env) (r : RD) : RS := lift env r fun d μ => kSidx3 v d env (evE P call i env μ)
def kSidx (o i : CE) (env : Env) (r : RD) : RS := lift env r fun v μ => kSidx2 P call v i env (evE P call o env μ)
def kExp (env : Env) (r : RD) : RS := lift env r fun _ μ => .ok (.nx, env) μ
def kRet (env : Env) (r : RD) : RS := lift env r fun d μ => .ok (.rt d, env) μ
def kIteS2 (c : Option Bool) (a b : CS) (env : Env) (μ : Store) : RS := match c with
    | some true => evS P call a env μ
    | some false => evS P call b env μ
    | none => .bad
def kIteS (a b : CS) (env : Env) (r : RD) : RS := lift env r fun d μ => kIteS2 P call (truth μ d) a b env μ
def kFor1 (ok : Bool) (k : ITK) (ds : List D) (w : Option (Nat × Bool × List (D × D))) (tg : TGT) (b : CS) (clr : List Nat) (env : Env) (μ : Store) : RS := match w with
      | none => forS (evS P call b) tg k ds clr env μ
      | some w => if ok then unlkS w (forS (evS P call b) tg k ds clr env (lockC w μ)) else .bad
def kFor (ok : Bool) (k : ITK) (tg : TGT) (b : CS) (clr : List Nat) (env : Env) (r : RA) : RS := match r with
    | .ok ds μ => kFor1 P call ok k ds (walkedC μ k ds) tg b clr env μ
    | .ex x μ => .ex (x, env) μ
    | .bad => .bad
def kAug3 (i : Nat) (env : Env) (r : RD) : RS := lift env r fun z μ => .ok (.nx, env.set i (some z)) μ
def kAug2 (i : Nat) (o : BinO) (x y : D) (env : Env) (μ : Store) : RS := match x, y with
      | .int _, .int _ => kAug3 i env (binS μ o x y)
      | _, _ => .bad
def kAug1 (i : Nat) (o : BinO) (x : D) (env : Env) (r : RD) : RS := lift env r fun y μ => kAug2 i o x y env μ
def kAug (i : Nat) (o : BinO) (e : CE) (x : Option D) (env : Env) (μ : Store) : RS := match x with
    | none => .bad
    | some x => kAug1 i o x env (evE P call e env μ)
variable (a b : CS) (env : Env)
@[simp] theorem evS_skip : evS P call .skip env μ = .ok (.nx, env) μ := (rfl)
@[simp] theorem evS_seq : evS P call (.seq a b) env μ = kSeq P call b (evS P call a env μ) := (rfl)
@[simp] theorem evS_asg (tg : TGT) (e : CE) : evS P call (.asg tg e) env μ = kAsg tg env (evE P call e env μ) := (rfl)
@[simp] theorem evS_sfld (o : CE) (f : Nat) (e : CE) : evS P call (.sfld o f e) env μ = kSfld P call o f env (evE P call e env μ) := (rfl)
@[simp] theorem evS_sidx (o i e : CE) : evS P call (.sidx o i e) env μ = kSidx P call o i env (evE P call e env μ) := (rfl)
@[simp] theorem evS_exp (e : CE) : evS P call (.exp e) env μ = kExp env (evE P call e env μ) := (rfl)
@[simp] theorem evS_ret (e : CE) : evS P call (.ret e) env μ = kRet env (evE P call e env μ) := (rfl)
@[simp] theorem evS_ite (c : CE) : evS P call (.ite c a b) env μ = kIteS P call a b env (evE P call c env μ) := (rfl)
@[simp] theorem evS_for (k : ITK) (it : CE) (tg : TGT) (clr : List Nat) : evS P call (.for k it tg b clr) env μ = kFor P call (pathE it) k tg b clr env (evA P call it env μ) := (rfl)
@[simp] theorem evS_brk : evS P call .brk env μ = .ok (.bk, env) μ := (rfl)
@[simp] theorem evS_cnt : evS P call .cnt env μ = .ok (.ct, env) μ := (rfl)
@[simp] theorem evS_clr (vs : List Nat) : evS P call (.clr vs) env μ = .ok (.nx, wipeE env vs) μ := (rfl)
@[simp] theorem evS_aug (i : Nat) (o : BinO) (e : CE) : evS P call (.aug i o e) env μ = kAug P call i o e (getV env i) env μ := by
  show (match getV env i with
    | none => _
    | some x => _) = _
  unfold kAug
  cases getV env i <;> rfl
@[simp] theorem kAug_some (i : Nat) (o : BinO) (e : CE) : kAug P call i o e (some d) env μ = kAug1 i o d env (evE P call e env μ) := (rfl)
@[simp] theorem kAug1_ok (i : Nat) (o : BinO) : kAug1 i o d env (.ok e μ) = kAug2 i o d e env μ := (rfl)
@[simp] theorem kAug2_int (i : Nat) (o : BinO) (m n : Int) : kAug2 i o (.int m) (.int n) env μ = kAug3 i env (binS μ o (.int m) (.int n)) := (rfl)
@[simp] theorem kAug3_ok (i : Nat) : kAug3 i env (.ok d μ) = .ok (.nx, env.set i (some d)) μ := (rfl)
@[simp] theorem kSeq_nx : kSeq P call b (.ok (.nx, env) μ) = evS P call b env μ := (rfl)
@[simp] theorem kSeq_rt : kSeq P call b (.ok (.rt d, env) μ) = .ok (.rt d, env) μ := (rfl)
@[simp] theorem kSeq_bk : kSeq P call b (.ok (.bk, env) μ) = .ok (.bk, env) μ := (rfl)
@[simp] theorem kSeq_ct : kSeq P call b (.ok (.ct, env) μ) = .ok (.ct, env) μ := (rfl)
@[simp] theorem kAsg_ok (tg : TGT) : kAsg tg env (.ok d μ) = nxO (asgT tg d env) μ := (rfl)
@[simp] theorem nxO_some : nxO (some env) μ = .ok (.nx, env) μ := (rfl)
@[simp] theorem nxM_some : nxM env (some μ) = .ok (.nx, env) μ := (rfl)
@[simp] theorem kSfld_ok (o : CE) (f : Nat) : kSfld P call o f env (.ok d μ) = kSfld2 P f d env (evE P call o env μ) := (rfl)
@[simp] theorem kSfld2_ok (f : Nat) (v : D) : kSfld2 P f v env (.ok d μ) = nxM env (setFld P.fok μ d f v) := (rfl)
@[simp] theorem kSidx_ok (o i : CE) : kSidx P call o i env (.ok d μ) = kSidx2 P call d i env (evE P call o env μ) := (rfl)
@[simp] theorem kSidx2_ok (v : D) (i : CE) : kSidx2 P call v i env (.ok d μ) = kSidx3 v d env (evE P call i env μ) := (rfl)
@[simp] theorem kSidx3_ok (v : D) : kSidx3 v d env (.ok e μ) = nxM env (setIx μ d e v) := (rfl)
@[simp] theorem kExp_ok : kExp env (.ok d μ) = .ok (.nx, env) μ := (rfl)
@[simp] theorem kRet_ok : kRet env (.ok d μ) = .ok (.rt d, env) μ := (rfl)
@[simp] theorem kIteS_ok : kIteS P call a b env (.ok d μ) = kIteS2 P call (truth μ d) a b env μ := (rfl)
@[simp] theorem kIteS2_t : kIteS2 P call (some true) a b env μ = evS P call a env μ := (rfl)
@[simp] theorem kIteS2_f : kIteS2 P call (some false) a b env μ = evS P call b env μ := (rfl)
theorem kIteS2_dec (p : Prop) [Decidable p] : kIteS2 P call (some (decide p)) a b env μ = if p then evS P call a env μ else evS P call b env μ := by
  by_cases h : p <;> simp [h]
@[simp] theorem kFor_ok (ok : Bool) (k : ITK) (tg : TGT) (clr : List Nat) : kFor P call ok k tg b clr env (.ok ds μ) = kFor1 P call ok k ds (walkedC μ k ds) tg b clr env μ := (rfl)
@[simp] theorem kFor1_none (ok : Bool) (k : ITK) (tg : TGT) (clr : List Nat) : kFor1 P call ok k ds none tg b clr env μ = forS (evS P call b) tg k ds clr env μ := (rfl)
end
section
variable (μ : Store) (i j : Int) (x y : Str) (b c : Bool) (xs ys : List D) (n : Nat) (d e : D) (t : Bool) (kvs : List (D × D)) (fs : List (Nat × D))
@[simp] theorem getV_zero (o : Option D) (r : Env) : getV (o :: r) 0 = o := by cases o <;> rfl
@[simp] theorem getV_succ (o : Option D) (r : Env) (n : Nat) : getV (o :: r) (n + 1) = getV r n := (rfl)
@[simp] theorem asgT_nm (k : Nat) (env : Env) : asgT (.nm k) d env = some (env.set k (some d)) := (rfl)
@[simp] theorem asgT_tp (ts : TGT) (env : Env) : asgT (.tp ts) (.tup xs) env = asgT.asgTs ts xs env := (rfl)
@[simp] theorem asgTs_nil (env : Env) : asgT.asgTs .nil [] env = some env := (rfl)
@[simp] theorem asgTs_cons (k : Nat) (r : TGT) (env : Env) : asgT.asgTs (.cons (.nm k) r) (d :: xs) env = asgT.asgTs r xs (env.set k (some d)) := (rfl)
@[simp] theorem asgTs_tp (ts r : TGT) (env : Env) : asgT.asgTs (.cons (.tp ts) r) (.tup ys :: xs) env = (asgT.asgTs ts ys env).bind (asgT.asgTs r xs) := (rfl)
@[simp] theorem wipeE_nil (env : Env) : wipeE env [] = env := (rfl)
@[simp] theorem wipeE_cons (env : Env) (k : Nat) (r : List Nat) : wipeE env (k :: r) = (wipeE env r).set k none := (rfl)
@[simp] theorem binS_addi : binS μ .add (.int i) (.int j) = .ok (.int (i + j)) μ := (rfl)
@[simp] theorem binS_subi : binS μ .sub (.int i) (.int j) = .ok (.int (i - j)) μ := (rfl)
theorem binS_mul (h : mulB i j = true) : binS μ .mul (.int i) (.int j) = .ok (.int (i * j)) μ := if_pos h
theorem binS_mod (h : 0 < j) : binS μ .mod (.int i) (.int j) = .ok (.int (i % j)) μ := if_pos (decide_eq_true h)
theorem binS_fdiv (h : divB j = true) : binS μ .fdiv (.int i) (.int j) = .ok (.int (i / j)) μ := if_pos h
theorem binS_pow (h : powB i j = true) : binS μ .pow (.int i) (.int j) = .ok (.int (i ^ j.toNat)) μ := if_pos h
theorem binS_shl (h : powB i j = true) : binS μ .shl (.int i) (.int j) = .ok (.int (i * 2 ^ j.toNat)) μ := if_pos h
theorem binS_adds (h : sz (x.length + y.length) = true) : binS μ .add (.str x) (.str y) = .ok (.str (x ++ y)) μ := if_pos h
theorem binS_addl (h : sz (xs.length + ys.length) = true) : binS μ .add (.lst xs) (.lst ys) = .ok (.lst (xs ++ ys)) μ := if_pos h
@[simp] theorem cmpS_lt : cmpS μ .lt (.int i) (.int j) = some (decide (i < j)) := (rfl)
@[simp] theorem cmpS_le : cmpS μ .le (.int i) (.int j) = some (decide (i ≤ j)) := (rfl)
@[simp] theorem cmpS_gt : cmpS μ .gt (.int i) (.int j) = some (decide (j < i)) := (rfl)
@[simp] theorem cmpS_ge : cmpS μ .ge (.int i) (.int j) = some (decide (j ≤ i)) := (rfl)
@[simp] theorem cmpS_eq : cmpS μ .eq d e = eqS μ d e := by cases d <;> cases e <;> rfl
@[simp] theorem cmpS_ne : cmpS μ .ne d e = (eqS μ d e).map (!·) := by cases d <;> cases e <;> rfl
@[simp] theorem cmpS_in : cmpS μ .isin d e = inS μ d e := by cases d <;> cases e <;> rfl
@[simp] theorem cmpS_ni : cmpS μ .notin d e = (inS μ d e).map (!·) := by cases d <;> cases e <;> rfl
@[simp] theorem cmpS_isN : cmpS μ .is d .non = some (decide (d = .non)) := by cases d <;> rfl
@[simp] theorem cmpS_ntN : cmpS μ .isnt d .non = some (!decide (d = .non)) := by cases d <;> rfl
@[simp] theorem eqS_ii : eqS μ (.int i) (.int j) = some (decide (i = j)) := by
  show some (i == j) = _
  by_cases h : i = j <;> simp [h]
@[simp] theorem eqS_ss : eqS μ (.str x) (.str y) = some (decide (x = y)) := (rfl)
@[simp] theorem eqS_bb : eqS μ (.bl b) (.bl c) = some (b == c) := (rfl)
@[simp] theorem eqS_nn : eqS μ .non .non = some true := (rfl)
@[simp] theorem eqS_sn : eqS μ (.str x) .non = some false := (rfl)
@[simp] theorem eqS_ns : eqS μ .non (.str x) = some false := (rfl)
@[simp] theorem truth_bl : truth μ (.bl b) = some b := (rfl)
@[simp] theorem truth_non : truth μ .non = some false := (rfl)
@[simp] theorem truth_int : truth μ (.int i) = some (i != 0) := (rfl)
@[simp] theorem lstOf_lst : lstOf μ (.lst xs) = some xs := (rfl)
theorem lstOf_cell (h : μ[n]? = some (.lst xs)) : lstOf μ (.cell n) = some xs := by simp [lstOf, h]
@[simp] theorem dicOf_dic : dicOf μ (.dic t kvs) = some (t, kvs) := (rfl)
@[simp] theorem dicOf_lst : dicOf μ (.lst xs) = none := (rfl)
@[simp] theorem dicOf_tup : dicOf μ (.tup xs) = none := (rfl)
@[simp] theorem dicOf_str : dicOf μ (.str x) = none := (rfl)
theorem dicOf_cell (h : μ[n]? = some (.dic t kvs)) : dicOf μ (.cell n) = some (t, kvs) := by simp [dicOf, h]
@[simp] theorem insOf_ins : insOf μ (.ins n fs) = some (n, fs) := (rfl)
@[simp] theorem seqOf_lst : seqOf μ (.lst xs) = some xs := (rfl)
@[simp] theorem seqOf_tup : seqOf μ (.tup xs) = some xs := (rfl)
@[simp] theorem partOf_int : partOf (.int i) = some (some i) := (rfl)
@[simp] theorem put_t : put μ true d = .ok d μ := (rfl)
@[simp] theorem put_fl : put μ false (.lst xs) = .ok (.cell μ.length) (μ ++ [.lst xs]) := (rfl)
@[simp] theorem put_fd : put μ false (.dic t kvs) = .ok (.cell μ.length) (μ ++ [.dic t kvs]) := (rfl)
@[simp] theorem bmTy_get : bmTy μ .get (.dic t kvs) = true := (rfl)
@[simp] theorem bmTy_split : bmTy μ .split (.str x) = true := (rfl)
@[simp] theorem bmTy_join : bmTy μ .join (.str x) = true := (rfl)
@[simp] theorem bmTy_sw : bmTy μ .startswith (.str x) = true := (rfl)
@[simp] theorem bmTy_index : bmTy μ .index (.lst xs) = true := (rfl)
theorem bmTy_cell (h : μ[n]? = some (.lst xs)) : bmTy μ .append (.cell n) = true := by simp [bmTy, lstOf, h]
@[simp] theorem isiS_nil (sub : List (List Nat)) : isiS sub μ d [] = some false := (rfl)
theorem isiS_cons (sub : List (List Nat)) (k : Kd) (h : kindOf μ d = some k) (hk : kdB sub.length k = true) (u : Ty) (ts : List Ty) : isiS sub μ d (u :: ts) = if isiK sub k u then some true else isiS sub μ d ts := by
  unfold isiS
  rw [List.foldr_cons]
  have e : isi sub μ d u = some (isiK sub k u) := by simp [isi, h, hk]
  rw [e]
  cases isiK sub k u <;> rfl
@[simp] theorem biS_lenl : biS μ .len [.lst xs] = .ok (.int xs.length) μ := (rfl)
@[simp] theorem biS_lent : biS μ .len [.tup xs] = .ok (.int xs.length) μ := (rfl)
end
end Co

set_option linter.all false
set_option maxRecDepth 100000
set_option Elab.async false
/-! Co4: how values and cells lie in the abstract heap. -/
namespace Co
open PySem L2
def kD : Key → D
  | .inl i => .int i
  | .inr x => .str x
theorem kD_inj {a b : Key} (h : kD a = kD b) : a = b := by
  cases a <;> cases b <;> simp [kD] at h <;> simp [h]
theorem kDs_inj : ∀ {a b : List Key}, a.map kD = b.map kD → a = b
  | [], [], _ => rfl
  | [], _ :: _, h => by simp at h
  | _ :: _, [], h => by simp at h
  | a :: r, b :: s, h => by
    simp only [List.map_cons, List.cons.injEq] at h
    rw [kD_inj h.1, kDs_inj h.2]
/-- a lambda as it stands in the text: its whole name, what it is, the names that it takes along -/
structure LamD where
  qual : Str
  ps : Arguments
  body : Expr
  sc : Scope
  cap : List Str
structure Nam where
  K : PySem.W.Frag
  cA : Nat → Addr
  fN : Nat → Str
  tb : List (Addr × Str)
  lam : Nat → Option LamD
/-- any object, told by itself -/
def oX : HO := .ext fun _ => True
/-- what is pinned for a while -/
def pinG (o : Obj) : HO := .frz o (.frz o oX)
def lamO (L : LamD) (cs : List (Str × Addr)) (pm : Value) (c : Addr) (ctv : Value) : Obj := PySem.W.kla_obj "<lambda>" L.qual L.ps L.body L.sc cs pm c ctv
/-- what stands of tables and of the code of lambdas that are about; captured cells are no cells of the store -/
structure Tb (T : Nam) (ι : List Addr) (G H : Hp) : Prop where
  tab : LamX.Tabs T.tb H
  code : ∀ a L cs pm c ctv, G a = some (pinG (lamO L cs pm c ctv)) → H c = some (LamX.CodeO c L.qual)
  off : ∀ a o v, G a = some (pinG o) → o.data = .cell v → a ∉ ι
  gtb : ∀ z ∈ T.tb, G z.1 = none
def Stat (u : HO) : Prop := (∃ ps, u = .tbl ps) ∨ ∃ φ, u = .ext φ
theorem Tb.keep {T : Nam} {ι ι' : List Addr} {G G' H H' : Hp} (t : Tb T ι G H) (hg : ∀ a o, G' a = some (pinG o) → G a = some (pinG o)) (hh : ∀ b u, H b = some u → Stat u → H' b = some u) (hi : ∀ a ∈ ι', a ∈ ι ∨ G a = none)
    (hz : ∀ b ps, H b = some (.tbl ps) → G b = none → G' b = none) : Tb T ι' G' H' := by
  refine ⟨fun p hp => ?_, fun a L cs pm c ctv e => hh _ _ (t.code a L cs pm c ctv (hg a _ e)) (.inr ⟨_, rfl⟩), fun a o v e d ha => ?_, fun z hz' => ?_⟩
  · obtain ⟨ps, h1, h2, h3⟩ := t.tab p hp
    refine ⟨ps, hh _ _ h1 (.inl ⟨_, rfl⟩), h2, fun pos cv hc => ?_⟩
    obtain ⟨c, e1, e2⟩ := h3 pos cv hc
    exact ⟨c, e1, hh _ _ e2 (.inr ⟨_, rfl⟩)⟩
  · rcases hi a ha with z | z
    · exact t.off a o v (hg a o e) d z
    · rw [hg a o e] at z
      cases z
  · obtain ⟨ps, h1, _⟩ := t.tab z hz'
    exact hz _ _ h1 (t.gtb z hz')
theorem Tb.new {T : Nam} {ι : List Addr} {G H : Hp} (t : Tb T ι G H) {p : Addr} (o : HO) (h : H p = none) : Tb T ι G (upd H p o) := t.keep (fun _ _ e => e) (fun b u e _ => by
  rw [upd_ne (fun z => by rw [z, h] at e; cases e)]
  exact e) (fun _ h => .inl h) fun _ _ _ e => e
theorem Tb.put {T : Nam} {ι : List Addr} {G H : Hp} (t : Tb T ι G H) {p : Addr} (o : HO) {u : HO} (h : H p = some u) (hu : ¬ Stat u) : Tb T ι G (upd H p o) := t.keep (fun _ _ e => e) (fun b w e hs => by
  rw [upd_ne (fun z => by
    rw [z, h] at e
    cases e
    exact hu hs)]
  exact e) (fun _ h => .inl h) fun _ _ _ e => e
/-- signs that are there -/
def strK (x : Str) : Prop := ∀ c ∈ x.cps.toList, c < 0x110000
def keyK : Key → Prop
  | .inl _ => True
  | .inr x => strK x
section
variable (T : Nam)
mutual
inductive RepD (ι : List Addr) (G : Hp) : V → D → Prop
  | non : RepD ι G .non .non
  | bl (b : Bool) : RepD ι G (.bl b) (.bl b)
  | int (i : Int) : RepD ι G (.int i) (.int i)
  | str {x : Str} : strK x → RepD ι G (.str x) (.str x)
  | tup {a : Addr} {vs : List V} {ds : List D} : G a = some (.tup vs) → RepL ι G vs ds → RepD ι G (.ref a) (.tup ds)
  | wtup {a : Addr} {vs : List V} {ds : List D} : SqT T.K G a vs → RepL ι G vs ds → RepD ι G (.ref a) (.wtup ds)
  | lst {a : Addr} {vs : List V} {ds : List D} : Rd G a (.lst vs) → RepL ι G vs ds → RepD ι G (.ref a) (.lst ds)
  | dicK {a : Addr} {kvs : List (Key × V)} {o : Obj} {ds : List (D × D)} : G a = some (.frz o (.dK kvs)) → RepK ι G kvs ds → RepD ι G (.ref a) (.dic false ds)
  | dicT {a : Addr} {kvs : List (List Key × V)} {o : Obj} {ds : List (D × D)} : G a = some (.frz o (.dT kvs)) → RepT ι G kvs ds → RepD ι G (.ref a) (.dic true ds)
  | ins {a dx : Addr} {c : Nat} {vs : List (Str × V)} {ds : List (Nat × D)} : G a = some (.ins (T.cA c) dx vs) → RepF ι G vs ds → RepD ι G (.ref a) (.ins c ds)
  | cell {a : Addr} {i : Nat} : ι[i]? = some a → RepD ι G (.ref a) (.cell i)
inductive RepL (ι : List Addr) (G : Hp) : List V → List D → Prop
  | nil : RepL ι G [] []
  | cons {v : V} {vs : List V} {d : D} {ds : List D} : RepD ι G v d → RepL ι G vs ds → RepL ι G (v :: vs) (d :: ds)
inductive RepK (ι : List Addr) (G : Hp) : List (Key × V) → List (D × D) → Prop
  | nil : RepK ι G [] []
  | cons {k : Key} {v : V} {vs : List (Key × V)} {d : D} {ds : List (D × D)} : keyK k → RepD ι G v d → RepK ι G vs ds → RepK ι G ((k, v) :: vs) ((kD k, d) :: ds)
inductive RepT (ι : List Addr) (G : Hp) : List (List Key × V) → List (D × D) → Prop
  | nil : RepT ι G [] []
  | cons {k : List Key} {v : V} {vs : List (List Key × V)} {d : D} {ds : List (D × D)} : (∀ x ∈ k, keyK x) → RepD ι G v d → RepT ι G vs ds → RepT ι G ((k, v) :: vs) ((.tup (k.map kD), d) :: ds)
inductive RepF (ι : List Addr) (G : Hp) : List (Str × V) → List (Nat × D) → Prop
  | nil : RepF ι G [] []
  | cons {f : Nat} {v : V} {vs : List (Str × V)} {d : D} {ds : List (Nat × D)} : RepD ι G v d → RepF ι G vs ds → RepF ι G ((T.fN f, v) :: vs) ((f, d) :: ds)
end
end
/-- more cells, more that is frozen -/
structure Grow (ι ι' : List Addr) (G G' : Hp) : Prop where
  ix : ∀ (i : Nat) (a : Addr), ι[i]? = some a → ι'[i]? = some a
  ex : Evl.Ex G G'
theorem Grow.refl (ι : List Addr) (G : Hp) : Grow ι ι G G := ⟨fun _ _ h => h, Evl.Ex.refl G⟩
theorem Grow.trans {ι ι1 ι2 : List Addr} {G G1 G2 : Hp} (a : Grow ι ι1 G G1) (b : Grow ι1 ι2 G1 G2) : Grow ι ι2 G G2 := ⟨fun i x h => b.ix i x (a.ix i x h), a.ex.trans b.ex⟩
section
variable {T : Nam} {ι ι' : List Addr} {G G' : Hp}
mutual
theorem RepD.mono (g : Grow ι ι' G G') : ∀ {v : V} {d : D}, RepD T ι G v d → RepD T ι' G' v d
  | _, _, .non => .non
  | _, _, .bl b => .bl b
  | _, _, .int b => .int b
  | _, _, .str b => .str b
  | _, _, .tup e r => .tup (g.ex _ _ e) (r.mono g)
  | _, _, .wtup e r => .wtup (Evl.ex_t g.ex e) (r.mono g)
  | _, _, .lst e r => .lst (Evl.ex_rd g.ex e) (r.mono g)
  | _, _, .dicK e r => .dicK (g.ex _ _ e) (r.mono g)
  | _, _, .dicT e r => .dicT (g.ex _ _ e) (r.mono g)
  | _, _, .ins e r => .ins (g.ex _ _ e) (r.mono g)
  | _, _, .cell e => .cell (g.ix _ _ e)
theorem RepL.mono (g : Grow ι ι' G G') : ∀ {v : List V} {d : List D}, RepL T ι G v d → RepL T ι' G' v d
  | _, _, .nil => .nil
  | _, _, .cons h r => .cons (h.mono g) (r.mono g)
theorem RepK.mono (g : Grow ι ι' G G') : ∀ {v : List (Key × V)} {d : List (D × D)}, RepK T ι G v d → RepK T ι' G' v d
  | _, _, .nil => .nil
  | _, _, .cons hk h r => .cons hk (h.mono g) (r.mono g)
theorem RepT.mono (g : Grow ι ι' G G') : ∀ {v : List (List Key × V)} {d : List (D × D)}, RepT T ι G v d → RepT T ι' G' v d
  | _, _, .nil => .nil
  | _, _, .cons hk h r => .cons hk (h.mono g) (r.mono g)
theorem RepF.mono (g : Grow ι ι' G G') : ∀ {v : List (Str × V)} {d : List (Nat × D)}, RepF T ι G v d → RepF T ι' G' v d
  | _, _, .nil => .nil
  | _, _, .cons h r => .cons (h.mono g) (r.mono g)
end
/-- back to fewer cells, where they alone are named -/
theorem lt_back {n i : Nat} {a : Addr} (h : i < n) (e : ι[i]? = some a) : (ι.take n)[i]? = some a := by
  rw [List.getElem?_take, if_pos h]
  exact e
mutual
theorem RepD.back {n : Nat} : ∀ {v : V} {d : D}, RepD T ι G v d → d.lt n = true → RepD T (ι.take n) G v d
  | _, _, .non, _ => .non
  | _, _, .bl b, _ => .bl b
  | _, _, .int b, _ => .int b
  | _, _, .str b, _ => .str b
  | _, _, .tup e r, h => .tup e (r.back (by rw [lt_tup] at h; exact h))
  | _, _, .wtup e r, h => .wtup e (r.back (by unfold D.lt at h; exact h))
  | _, _, .lst e r, h => .lst e (r.back (by rw [lt_lst] at h; exact h))
  | _, _, .dicK e r, h => .dicK e (r.back (by rw [lt_dic] at h; exact h))
  | _, _, .dicT e r, h => .dicT e (r.back (by rw [lt_dic] at h; exact h))
  | _, _, .ins e r, h => .ins e (r.back (by rw [lt_ins] at h; exact h))
  | _, _, .cell e, h => .cell (lt_back (by rw [lt_cell] at h; exact of_decide_eq_true h) e)
theorem RepL.back {n : Nat} : ∀ {v : List V} {d : List D}, RepL T ι G v d → D.lts n d = true → RepL T (ι.take n) G v d
  | _, _, .nil, _ => .nil
  | _, _, .cons h r, e => by
    rw [lts_cons, Bool.and_eq_true] at e
    exact .cons (h.back e.1) (r.back e.2)
theorem RepK.back {n : Nat} : ∀ {v : List (Key × V)} {d : List (D × D)}, RepK T ι G v d → D.ltp n d = true → RepK T (ι.take n) G v d
  | _, _, .nil, _ => .nil
  | _, _, .cons hk h r, e => by
    rw [ltp_cons, Bool.and_eq_true, Bool.and_eq_true] at e
    exact .cons hk (h.back e.1.2) (r.back e.2)
theorem RepT.back {n : Nat} : ∀ {v : List (List Key × V)} {d : List (D × D)}, RepT T ι G v d → D.ltp n d = true → RepT T (ι.take n) G v d
  | _, _, .nil, _ => .nil
  | _, _, .cons hk h r, e => by
    rw [ltp_cons, Bool.and_eq_true, Bool.and_eq_true] at e
    exact .cons hk (h.back e.1.2) (r.back e.2)
theorem RepF.back {n : Nat} : ∀ {v : List (Str × V)} {d : List (Nat × D)}, RepF T ι G v d → D.ltf n d = true → RepF T (ι.take n) G v d
  | _, _, .nil, _ => .nil
  | _, _, .cons h r, e => by
    rw [ltf_cons, Bool.and_eq_true] at e
    exact .cons (h.back e.1) (r.back e.2)
end
theorem RepL.length : ∀ {v : List V} {d : List D}, RepL T ι G v d → v.length = d.length
  | _, _, .nil => rfl
  | _, _, .cons _ r => by simp [r.length]
theorem RepK.length : ∀ {v : List (Key × V)} {d : List (D × D)}, RepK T ι G v d → v.length = d.length
  | _, _, .nil => rfl
  | _, _, .cons _ _ r => by simp [r.length]
theorem RepT.length : ∀ {v : List (List Key × V)} {d : List (D × D)}, RepT T ι G v d → v.length = d.length
  | _, _, .nil => rfl
  | _, _, .cons _ _ r => by simp [r.length]
theorem RepF.length : ∀ {v : List (Str × V)} {d : List (Nat × D)}, RepF T ι G v d → v.length = d.length
  | _, _, .nil => rfl
  | _, _, .cons _ r => by simp [r.length]
theorem RepL.append : ∀ {v w : List V} {d e : List D}, RepL T ι G v d → RepL T ι G w e → RepL T ι G (v ++ w) (d ++ e)
  | _, _, _, _, .nil, s => s
  | _, _, _, _, .cons h r, s => .cons h (r.append s)
theorem RepL.get : ∀ {v : List V} {d : List D} {i : Nat} {x : D}, RepL T ι G v d → d[i]? = some x → ∃ u, v[i]? = some u ∧ RepD T ι G u x
  | _, _, _, _, .nil, e => by simp at e
  | _, _, 0, _, .cons h _, e => by simp at e; subst e; exact ⟨_, rfl, h⟩
  | _, _, i + 1, x, .cons _ r, e => r.get (i := i) (x := x) (by simpa using e)
theorem RepL.get' : ∀ {v : List V} {d : List D} {i : Nat} {u : V}, RepL T ι G v d → v[i]? = some u → ∃ x, d[i]? = some x ∧ RepD T ι G u x
  | _, _, _, _, .nil, e => by simp at e
  | _, _, 0, _, .cons h _, e => by simp at e; subst e; exact ⟨_, rfl, h⟩
  | _, _, i + 1, x, .cons _ r, e => r.get' (i := i) (u := x) (by simpa using e)
theorem RepL.set {x : D} {u : V} (h : RepD T ι G u x) : ∀ {v : List V} {d : List D} (i : Nat), RepL T ι G v d → RepL T ι G (v.set i u) (d.set i x)
  | _, _, _, .nil => .nil
  | _, _, 0, .cons _ r => .cons h r
  | _, _, i + 1, .cons q r => .cons q (r.set h i)
theorem RepL.drop : ∀ {v : List V} {d : List D} (n : Nat), RepL T ι G v d → RepL T ι G (v.drop n) (d.drop n)
  | _, _, 0, r => r
  | _, _, _ + 1, .nil => .nil
  | _, _, n + 1, .cons _ r => r.drop n
theorem RepL.take : ∀ {v : List V} {d : List D} (n : Nat), RepL T ι G v d → RepL T ι G (v.take n) (d.take n)
  | _, _, 0, _ => .nil
  | _, _, _ + 1, .nil => .nil
  | _, _, n + 1, .cons h r => .cons h (r.take n)
theorem RepL.reverse {v : List V} {d : List D} (r : RepL T ι G v d) : RepL T ι G v.reverse d.reverse := by
  induction v generalizing d with
  | nil => cases r; exact .nil
  | cons x v ih => cases r with
    | cons h r => rw [List.reverse_cons, List.reverse_cons]; exact (ih r).append (.cons h .nil)
/-! ### dicts -/
theorem RepK.find : ∀ {v : List (Key × V)} {d : List (D × D)} (k : Key), RepK T ι G v d → match kfind d (kD k) with
    | some x => ∃ u, valV v k = some u ∧ RepD T ι G u x
    | none => valV v k = none
  | _, _, _, .nil => rfl
  | (j, u) :: vs, (_, x) :: ds, k, .cons hk h r => by
    have ih := r.find k
    unfold kfind
    by_cases e : j = k
    · subst e
      rw [if_pos rfl]
      exact ⟨u, by unfold valV; simp, h⟩
    · rw [if_neg fun z => e (kD_inj z)]
      have ev : valV ((j, u) :: vs) k = valV vs k := by
        unfold valV
        rw [List.find?_cons_of_neg (by simp [e])]
      rw [ev]
      exact ih
theorem RepT.find : ∀ {v : List (List Key × V)} {d : List (D × D)} (k : List Key), RepT T ι G v d → match kfind d (.tup (k.map kD)) with
    | some x => ∃ u, valV v k = some u ∧ RepD T ι G u x
    | none => valV v k = none
  | _, _, _, .nil => rfl
  | (j, u) :: vs, (_, x) :: ds, k, .cons hk h r => by
    have ih := r.find k
    unfold kfind
    by_cases e : j = k
    · subst e
      rw [if_pos rfl]
      exact ⟨u, by unfold valV; simp, h⟩
    · rw [if_neg fun z => e (kDs_inj (D.tup.inj z))]
      have ev : valV ((j, u) :: vs) k = valV vs k := by
        unfold valV
        rw [List.find?_cons_of_neg (by simp [e])]
      rw [ev]
      exact ih
theorem RepK.any (k : Key) : ∀ {v : List (Key × V)} {d : List (D × D)}, RepK T ι G v d → (d.any fun p => decide (p.1 = kD k)) = v.any fun p => decide (p.1 = k)
  | _, _, .nil => rfl
  | (j, u) :: vs, (_, x) :: ds, .cons hk h r => by
    simp only [List.any_cons]
    rw [r.any k]
    by_cases e : j = k
    · simp [e]
    · have e2 : ¬ kD j = kD k := fun z => e (kD_inj z)
      simp [e, e2]
theorem RepT.any (k : List Key) : ∀ {v : List (List Key × V)} {d : List (D × D)}, RepT T ι G v d → (d.any fun p => decide (p.1 = .tup (k.map kD))) = v.any fun p => decide (p.1 = k)
  | _, _, .nil => rfl
  | (j, u) :: vs, (_, x) :: ds, .cons hk h r => by
    simp only [List.any_cons]
    rw [r.any k]
    by_cases e : j = k
    · simp [e]
    · have e2 : ¬ D.tup (j.map kD) = .tup (k.map kD) := fun z => e (kDs_inj (D.tup.inj z))
      rw [decide_eq_false e, decide_eq_false e2]
theorem RepK.mapP (k : Key) {w : V} {x : D} (hx : RepD T ι G w x) : ∀ {v : List (Key × V)} {d : List (D × D)}, RepK T ι G v d → RepK T ι G (v.map fun kv => if kv.1 = k then (kv.1, w) else kv) (d.map fun p => if p.1 = kD k then (p.1, x) else p)
  | _, _, .nil => .nil
  | (j, u) :: vs, (_, y) :: ds, .cons hk h r => by
    simp only [List.map_cons]
    by_cases e : j = k
    · rw [if_pos e, if_pos (by rw [e])]
      exact .cons hk hx (r.mapP k hx)
    · rw [if_neg e, if_neg fun z => e (kD_inj z)]
      exact .cons hk h (r.mapP k hx)
theorem RepT.mapP (k : List Key) {w : V} {x : D} (hx : RepD T ι G w x) : ∀ {v : List (List Key × V)} {d : List (D × D)}, RepT T ι G v d → RepT T ι G (v.map fun kv => if kv.1 = k then (kv.1, w) else kv) (d.map fun p => if p.1 = .tup (k.map kD) then (p.1, x) else p)
  | _, _, .nil => .nil
  | (j, u) :: vs, (_, y) :: ds, .cons hk h r => by
    simp only [List.map_cons]
    by_cases e : j = k
    · rw [if_pos e, if_pos (by rw [e])]
      exact .cons hk hx (r.mapP k hx)
    · rw [if_neg e, if_neg fun z => e (kDs_inj (D.tup.inj z))]
      exact .cons hk h (r.mapP k hx)
theorem RepK.append : ∀ {v w : List (Key × V)} {d e : List (D × D)}, RepK T ι G v d → RepK T ι G w e → RepK T ι G (v ++ w) (d ++ e)
  | _, _, _, _, .nil, s => s
  | _, _, _, _, .cons hk h r, s => .cons hk h (r.append s)
theorem RepT.append : ∀ {v w : List (List Key × V)} {d e : List (D × D)}, RepT T ι G v d → RepT T ι G w e → RepT T ι G (v ++ w) (d ++ e)
  | _, _, _, _, .nil, s => s
  | _, _, _, _, .cons hk h r, s => .cons hk h (r.append s)
theorem RepK.put (k : Key) (hkk : keyK k) {w : V} {x : D} (hx : RepD T ι G w x) {v : List (Key × V)} {d : List (D × D)} (r : RepK T ι G v d) : RepK T ι G (putK v k w) (kput d (kD k) x) := by
  unfold putK kput
  rw [r.any k]
  split
  · exact r.mapP k hx
  · exact r.append (.cons hkk hx .nil)
theorem RepT.put (k : List Key) (hkk : ∀ x ∈ k, keyK x) {w : V} {x : D} (hx : RepD T ι G w x) {v : List (List Key × V)} {d : List (D × D)} (r : RepT T ι G v d) : RepT T ι G (putK v k w) (kput d (.tup (k.map kD)) x) := by
  unfold putK kput
  rw [r.any k]
  split
  · exact r.mapP k hx
  · exact r.append (.cons hkk hx .nil)
/-! ### keys -/
theorem key_of {v : V} {d : D} (r : RepD T ι G v d) (h : d.isKey = true) : ∃ k, v = kV k ∧ d = kD k ∧ keyK k := by
  cases r with
  | int i => exact ⟨.inl i, rfl, rfl, trivial⟩
  | str hs => exact ⟨.inr _, rfl, rfl, hs⟩
  | _ => cases h
theorem keys_of : ∀ {v : List V} {d : List D}, RepL T ι G v d → d.all D.isKey = true → ∃ k : List Key, v = k.map kV ∧ d = k.map kD ∧ ∀ x ∈ k, keyK x
  | _, _, .nil, _ => ⟨[], rfl, rfl, fun _ h => nomatch h⟩
  | _, _, .cons h r, e => by
    rw [List.all_cons, Bool.and_eq_true] at e
    obtain ⟨k, e1, e2, e5⟩ := key_of h e.1
    obtain ⟨ks, e3, e4, e6⟩ := keys_of r e.2
    exact ⟨k :: ks, by rw [e1, e3]; rfl, by rw [e2, e4]; rfl, fun x hx => (List.mem_cons.mp hx).elim (fun z => z ▸ e5) (e6 x)⟩
/-! ### fields -/
theorem RepF.find (inj : ∀ f g, T.fN f = T.fN g → f = g) (f : Nat) : ∀ {v : List (Str × V)} {d : List (Nat × D)}, RepF T ι G v d → match fget d f with
    | some x => ∃ u, v.lookup (T.fN f) = some u ∧ RepD T ι G u x
    | none => v.lookup (T.fN f) = none
  | _, _, .nil => rfl
  | (_, u) :: vs, (g, x) :: ds, .cons h r => by
    have ih := RepF.find inj f r
    unfold fget
    by_cases e : g = f
    · subst e
      rw [if_pos rfl]
      exact ⟨u, by simp [List.lookup], h⟩
    · rw [if_neg e]
      have e2 : (T.fN f == T.fN g) = false := beq_eq_false_iff_ne.mpr fun z => e (inj _ _ z.symm)
      have ev : List.lookup (T.fN f) ((T.fN g, u) :: vs) = vs.lookup (T.fN f) := by simp [List.lookup, e2]
      rw [ev]
      exact ih
end
/-- a cell that is locked is told apart by a double mark -/
def rl : HO → HO
  | .frz _ (.frz o w) => .frz o w
  | u => u
theorem not_pin {o : HO} (h : rl o = o) (o' : Obj) : o ≠ pinG o' := fun z => by
  rw [z] at h
  unfold rl pinG oX at h
  injection h with _ h
  cases h
/-- frozen data stand, and what is locked stays locked -/
structure Fz (G H : Hp) : Prop where
  at_ : ∀ a u, G a = some u → H a = some (rl u)
theorem Fz.tup {G H : Hp} (f : Fz G H) {a : Addr} {vs : List V} (h : G a = some (.tup vs)) : H a = some (.tup vs) := f.at_ a _ h
theorem Fz.ins {G H : Hp} (f : Fz G H) {a C dx : Addr} {vs : List (Str × V)} (h : G a = some (.ins C dx vs)) : H a = some (.ins C dx vs) := f.at_ a _ h
theorem Fz.dk {G H : Hp} (f : Fz G H) {a : Addr} {o : Obj} {vs : List (Key × V)} (h : G a = some (.frz o (.dK vs))) : H a = some (.frz o (.dK vs)) := f.at_ a _ h
theorem Fz.dt {G H : Hp} (f : Fz G H) {a : Addr} {o : Obj} {vs : List (List Key × V)} (h : G a = some (.frz o (.dT vs))) : H a = some (.frz o (.dT vs)) := f.at_ a _ h
theorem Fz.rdl {G H : Hp} (f : Fz G H) {a : Addr} {vs : List V} (h : Rd G a (.lst vs)) : Rd H a (.lst vs) := by
  rcases h with h | ⟨o, h⟩
  · exact .inl (f.at_ _ _ h)
  · exact .inr ⟨o, f.at_ _ _ h⟩
theorem Fz.rdt {G H : Hp} (f : Fz G H) {a : Addr} {vs : List V} (h : Rd G a (.tup vs)) : Rd H a (.tup vs) := by
  rcases h with h | ⟨o, h⟩
  · exact .inl (f.at_ _ _ h)
  · exact .inr ⟨o, f.at_ _ _ h⟩
theorem Fz.sql {K : PySem.W.Frag} {G H : Hp} (f : Fz G H) {a : Addr} {vs : List V} (h : SqL K G a vs) : SqL K H a vs := by
  rcases h with h | h
  · exact .inl (f.rdl h)
  · exact .inr h
theorem Fz.sqt {K : PySem.W.Frag} {G H : Hp} (f : Fz G H) {a : Addr} {vs : List V} (h : SqT K G a vs) : SqT K H a vs := by
  rcases h with h | h
  · exact .inl (f.rdt h)
  · exact .inr h
theorem Fz.some {G H : Hp} (f : Fz G H) {a : Addr} {u : HO} (h : G a = some u) : H a ≠ none := by
  rw [f.at_ a _ h]; simp
theorem Fz.free {G H : Hp} (f : Fz G H) {a : Addr} (h : H a = none) : G a = none := by
  cases e : G a with
  | none => rfl
  | some u => exact absurd h (f.some e)
theorem Fz.new {G H : Hp} (f : Fz G H) {p : Addr} (o : HO) (h : H p = none) (ho : rl o = o) : Fz (upd G p o) (upd H p o) := ⟨fun a u e => by
  by_cases q : a = p
  · subst q
    rw [upd_same] at e ⊢
    cases e
    rw [ho]
  · rw [upd_ne q] at e ⊢
    exact f.at_ a u e⟩
/-- what is not frozen changes -/
theorem Fz.upd {G H : Hp} (f : Fz G H) {p : Addr} (o : HO) (h : G p = none) : Fz G (upd H p o) := ⟨fun a u e => by
  have q : a ≠ p := fun z => by rw [z, h] at e; cases e
  rw [upd_ne q]
  exact f.at_ a u e⟩
/-- the captured values in their cell objects -/
inductive Caps (G : Hp) : List (Str × Addr) → List V → Prop
  | nil : Caps G [] []
  | cons {x : Str} {c : Addr} {o : Obj} {u : Value} {v : V} {cs : List (Str × Addr)} {vs : List V} : G c = some (pinG o) → o.data = .cell (some u) → RelV v u → Caps G cs vs → Caps G ((x, c) :: cs) (v :: vs)
theorem Caps.mono {G G' : Hp} (h : ∀ a o, G a = some (pinG o) → G' a = some (pinG o)) {cs : List (Str × Addr)} {vs : List V} (c : Caps G cs vs) : Caps G' cs vs := by
  induction c with
  | nil => exact .nil
  | cons b c d _ ih => exact .cons (h _ _ b) c d ih
section
variable (T : Nam)
/-- a cell's content in the heap -/
inductive CellAt (ι : List Addr) (G H : Hp) (a : Addr) : Cell → Prop
  | dead : CellAt ι G H a .dead
  | lst {vs : List V} {xs : List D} : G a = none → H a = some (.lst vs) → RepL T ι G vs xs → CellAt ι G H a (.lst xs)
  | dicK {kvs : List (Key × V)} {ds : List (D × D)} : G a = none → H a = some (.dK kvs) → RepK T ι G kvs ds → CellAt ι G H a (.dic false ds)
  | dicT {kvs : List (List Key × V)} {ds : List (D × D)} : G a = none → H a = some (.dT kvs) → RepT T ι G kvs ds → CellAt ι G H a (.dic true ds)
  | ins {dx : Addr} {c : Nat} {vs : List (Str × V)} {ds : List (Nat × D)} : G a = none → H a = some (.ins (T.cA c) dx vs) → RepF T ι G vs ds → CellAt ι G H a (.ins c ds)
  | ldicK {o : Obj} {kvs : List (Key × V)} {ds : List (D × D)} : G a = some (.frz o (.frz o (.dK kvs))) → H a = some (.frz o (.dK kvs)) → RepK T ι G kvs ds → CellAt ι G H a (.ldic false ds)
  | ldicT {o : Obj} {kvs : List (List Key × V)} {ds : List (D × D)} : G a = some (.frz o (.frz o (.dT kvs))) → H a = some (.frz o (.dT kvs)) → RepT T ι G kvs ds → CellAt ι G H a (.ldic true ds)
  | clo {lf : Nat} {L : LamD} {cs : List (Str × Addr)} {pm : Value} {c : Addr} {ctv : Value} {vs : List V} {ds : List D} : T.lam lf = some L → G a = some (pinG (lamO L cs pm c ctv)) → H a = some (.frz (lamO L cs pm c ctv) oX) → cs.map (·.1) = L.cap → (cs.map (·.2)).Nodup → Caps G cs vs → RepL T ι G vs ds → CellAt ι G H a (.clo lf ds)
structure RelH (ι : List Addr) (G : Hp) (μ : Store) (H : Hp) : Prop where
  fz : Fz G H
  len : ι.length = μ.length
  nd : ι.Nodup
  trk : ∀ a ∈ ι, H a ≠ none
  tb : Tb T ι G H
  cel : ∀ (i : Nat) (a : Addr) (c : Cell), ι[i]? = some a → μ[i]? = some c → CellAt T ι G H a c
structure RelS (ι : List Addr) (G : Hp) (env : Env) (σ : L2.St) : Prop where
  len : env.length = σ.length
  at_ : ∀ (i : Nat) (d : D), env[i]? = some (some d) → ∃ v, σ[i]? = some (some v) ∧ RepD T ι G v d
end
section
variable {T : Nam} {ι ι' : List Addr} {G G' H H' : Hp} {μ μ' : Store} {env : Env} {σ : L2.St}
theorem CellAt.grow {a : Addr} {c : Cell} (g : Grow ι ι' G G') (h : CellAt T ι G H a c) (hg : G' a = none ∨ c.free = false) (hh : ∀ u, H a = some u → H' a = some u) : CellAt T ι' G' H' a c := by
  cases h with
  | dead => exact .dead
  | lst h1 h2 h3 =>
    rcases hg with hg | hg
    · exact .lst hg (hh _ h2) (h3.mono g)
    · cases hg
  | dicK h1 h2 h3 =>
    rcases hg with hg | hg
    · exact .dicK hg (hh _ h2) (h3.mono g)
    · cases hg
  | dicT h1 h2 h3 =>
    rcases hg with hg | hg
    · exact .dicT hg (hh _ h2) (h3.mono g)
    · cases hg
  | ins h1 h2 h3 =>
    rcases hg with hg | hg
    · exact .ins hg (hh _ h2) (h3.mono g)
    · cases hg
  | ldicK h1 h2 h3 => exact .ldicK (g.ex _ _ h1) (hh _ h2) (h3.mono g)
  | ldicT h1 h2 h3 => exact .ldicT (g.ex _ _ h1) (hh _ h2) (h3.mono g)
  | clo h0 h1 h2 k1 k2 h3 h4 => exact .clo h0 (g.ex _ _ h1) (hh _ h2) k1 k2 (h3.mono fun _ _ e => g.ex _ _ e) (h4.mono g)
theorem CellAt.mut {a : Addr} {c : Cell} (h : CellAt T ι G H a c) (hc : c.free = true) : ∃ u, H a = some u ∧ ¬ Stat u := by
  cases h with
  | dead => cases hc
  | lst _ h => exact ⟨_, h, fun z => by rcases z with ⟨_, z⟩ | ⟨_, z⟩ <;> cases z⟩
  | dicK _ h => exact ⟨_, h, fun z => by rcases z with ⟨_, z⟩ | ⟨_, z⟩ <;> cases z⟩
  | dicT _ h => exact ⟨_, h, fun z => by rcases z with ⟨_, z⟩ | ⟨_, z⟩ <;> cases z⟩
  | ins _ h => exact ⟨_, h, fun z => by rcases z with ⟨_, z⟩ | ⟨_, z⟩ <;> cases z⟩
  | ldicK => cases hc
  | ldicT => cases hc
  | clo => cases hc
theorem CellAt.free {a : Addr} {c : Cell} (h : CellAt T ι G H a c) (hc : c.free = true) : G a = none := by
  cases h with
  | dead => cases hc
  | lst h1 => exact h1
  | dicK h1 => exact h1
  | dicT h1 => exact h1
  | ins h1 => exact h1
  | ldicK h1 => cases hc
  | ldicT h1 => cases hc
  | clo => cases hc
theorem RelS.mono (g : Grow ι ι' G G') (r : RelS T ι G env σ) : RelS T ι' G' env σ := ⟨r.len, fun i d e => by
  obtain ⟨v, h1, h2⟩ := r.at_ i d e
  exact ⟨v, h1, h2.mono g⟩⟩
theorem RelS.set (r : RelS T ι G env σ) {v : V} {d : D} (h : RepD T ι G v d) (i : Nat) : RelS T ι G (env.set i (some d)) (σ.set i (some v)) := ⟨by rw [List.length_set, List.length_set]; exact r.len, fun j x e => by
  by_cases hj : i = j
  · subst hj
    by_cases hl : i < env.length
    · rw [List.getElem?_set_self hl] at e
      cases e
      exact ⟨v, by rw [List.getElem?_set_self (by rw [← r.len]; exact hl)], h⟩
    · rw [List.getElem?_eq_none (by rw [List.length_set]; omega)] at e
      cases e
  · rw [List.getElem?_set_ne hj] at e ⊢
    exact r.at_ j x e⟩
theorem RelS.forget (r : RelS T ι G env σ) (i : Nat) : RelS T ι G (env.set i none) σ := ⟨by rw [List.length_set]; exact r.len, fun j x e => by
  by_cases hj : i = j
  · subst hj
    by_cases hl : i < env.length
    · rw [List.getElem?_set_self hl] at e
      cases e
    · rw [List.getElem?_eq_none (by rw [List.length_set]; omega)] at e
      cases e
  · rw [List.getElem?_set_ne hj] at e
    exact r.at_ j x e⟩
theorem RelS.wipeE (r : RelS T ι G env σ) : ∀ vs : List Nat, RelS T ι G (wipeE env vs) σ
  | [] => r
  | v :: vs => (RelS.wipeE r vs).forget v
/-- both sides forget -/
theorem RelS.wipe2 (r : RelS T ι G env σ) : ∀ vs : List Nat, RelS T ι G (Co.wipeE env vs) (wipe σ vs)
  | [] => r
  | v :: vs => by
    have h := RelS.wipe2 r vs
    refine ⟨by show (List.set _ _ _).length = (List.set _ _ _).length; rw [List.length_set, List.length_set]; exact h.len, fun j x e => ?_⟩
    have e' : ((Co.wipeE env vs).set v none)[j]? = some (some x) := e
    by_cases hj : v = j
    · subst hj
      by_cases hl : v < (Co.wipeE env vs).length
      · rw [List.getElem?_set_self hl] at e'
        cases e'
      · rw [List.getElem?_eq_none (by rw [List.length_set]; omega)] at e'
        cases e'
    · rw [List.getElem?_set_ne hj] at e'
      obtain ⟨w, h1, h2⟩ := h.at_ j x e'
      exact ⟨w, by show ((wipe σ vs).set v none)[j]? = _; rw [List.getElem?_set_ne hj]; exact h1, h2⟩
theorem getV_some {i : Nat} {d : D} (h : getV env i = some d) : env[i]? = some (some d) := by
  unfold getV at h
  split at h
  · rename_i e
    cases h
    exact e
  · cases h
/-- a new frozen object -/
theorem RelH.frozen (r : RelH T ι G μ H) {p : Addr} (o : HO) (h : H p = none) (ho : rl o = o) (hnt : ∀ ps, o ≠ .tbl ps := by intro ps z; cases z) : RelH T ι (upd G p o) μ (upd H p o) :=
  ⟨r.fz.new o h ho, r.len, r.nd, fun a ha => by
    have q : a ≠ p := fun z => r.trk a ha (by rw [z]; exact h)
    rw [upd_ne q]
    exact r.trk a ha, (r.tb.new o h).keep (fun a o' e => by
    by_cases q : a = p
    · subst q
      rw [upd_same] at e
      exact absurd (Option.some.inj e) (not_pin ho o')
    · rw [upd_ne q] at e
      exact e) (fun _ _ e _ => e) (fun _ h => .inl h) (fun b ps e z => by
    by_cases q : b = p
    · subst q
      rw [upd_same] at e
      cases e
      exact absurd rfl (hnt ps)
    · rw [upd_ne q]
      exact z), fun i a c e1 e2 => by
    have q : a ≠ p := fun z => r.trk a (List.mem_of_getElem? e1) (by rw [z]; exact h)
    refine (r.cel i a c e1 e2).grow ⟨fun _ _ e => e, Evl.Ex.new (r.fz.free h)⟩ ?_ fun u e => by rw [upd_ne q]; exact e
    cases hc : c.free
    · exact .inr rfl
    · exact .inl (by rw [upd_ne q]; exact (r.cel i a c e1 e2).free hc)⟩
theorem Grow.frozen {p : Addr} (o : HO) (h : G p = none) : Grow ι ι G (upd G p o) := ⟨fun _ _ e => e, Evl.Ex.new h⟩
/-- a new object, known to nobody -/
theorem RelH.other (r : RelH T ι G μ H) {p : Addr} (o : HO) (h : H p = none) : RelH T ι G μ (upd H p o) :=
  ⟨r.fz.upd o (r.fz.free h), r.len, r.nd, fun a ha => by
    have q : a ≠ p := fun z => r.trk a ha (by rw [z]; exact h)
    rw [upd_ne q]
    exact r.trk a ha, r.tb.new o h, fun i a c e1 e2 => by
    have q : a ≠ p := fun z => r.trk a (List.mem_of_getElem? e1) (by rw [z]; exact h)
    refine (r.cel i a c e1 e2).grow (Grow.refl ι G) ?_ fun u e => by rw [upd_ne q]; exact e
    cases hc : c.free
    · exact .inr rfl
    · exact .inl ((r.cel i a c e1 e2).free hc)⟩
theorem Grow.cell (ι : List Addr) (G : Hp) (p : Addr) : Grow ι (ι ++ [p]) G G := ⟨fun i a e => by
  rw [List.getElem?_append_left (List.getElem?_eq_some_iff.mp e).1]
  exact e, Evl.Ex.refl G⟩
/-- a new cell -/
theorem RelH.cell (r : RelH T ι G μ H) {p : Addr} {o : HO} {c : Cell} (h : H p = none) (hc : CellAt T ι G (upd H p o) p c) : RelH T (ι ++ [p]) G (μ ++ [c]) (upd H p o) := by
  have r2 := r.other o h
  have hp : p ∉ ι := fun z => r.trk p z h
  refine ⟨r2.fz, by rw [List.length_append, List.length_append, r.len]; rfl, ?_, fun a ha => ?_, r2.tb.keep (fun _ _ e => e) (fun _ _ e _ => e) (fun a ha => (List.mem_append.mp ha).imp id fun z => by rw [List.mem_singleton.mp z]; exact r.fz.free h) (fun _ _ _ e => e), fun i a d e1 e2 => ?_⟩
  · rw [List.nodup_append]
    refine ⟨r.nd, by simp, fun a ha b hb e => ?_⟩
    rw [List.mem_singleton] at hb
    subst hb
    subst e
    exact hp ha
  · rcases List.mem_append.mp ha with ha | ha
    · exact r2.trk a ha
    · rw [List.mem_singleton] at ha
      rw [ha, upd_same]
      simp
  · by_cases hi : i < ι.length
    · rw [List.getElem?_append_left hi] at e1
      rw [List.getElem?_append_left (by rw [← r.len]; exact hi)] at e2
      refine (r2.cel i a d e1 e2).grow (Grow.cell ι G p) ?_ fun _ e => e
      cases hd : d.free
      · exact .inr rfl
      · exact .inl ((r2.cel i a d e1 e2).free hd)
    · have hi2 : i = ι.length := by
        have := (List.getElem?_eq_some_iff.mp e1).1
        rw [List.length_append, List.length_singleton] at this
        omega
      subst hi2
      rw [List.getElem?_append_right (Nat.le_refl _), Nat.sub_self] at e1
      rw [List.getElem?_append_right (by rw [r.len]; exact Nat.le_refl _), r.len, Nat.sub_self] at e2
      cases e1
      cases e2
      refine hc.grow (Grow.cell ι G p) ?_ fun _ e => e
      cases hd : c.free
      · exact .inr rfl
      · exact .inl (hc.free hd)
theorem nodup_get {l : List Addr} (h : l.Nodup) {i j : Nat} {a : Addr} (e1 : l[i]? = some a) (e2 : l[j]? = some a) : i = j := by
  obtain ⟨h1, q1⟩ := List.getElem?_eq_some_iff.mp e1
  obtain ⟨h2, q2⟩ := List.getElem?_eq_some_iff.mp e2
  exact (List.getElem_inj h).mp (q1.trans q2.symm)
/-- a cell is written -/
theorem RelH.write (r : RelH T ι G μ H) {p : Addr} {o : HO} {c c' : Cell} {i : Nat} (e1 : ι[i]? = some p) (e2 : μ[i]? = some c) (hd : c.free = true) (hc : CellAt T ι G (upd H p o) p c') : RelH T ι G (μ.set i c') (upd H p o) := by
  have hg := (r.cel i p c e1 e2).free hd
  refine ⟨r.fz.upd o hg, by rw [List.length_set]; exact r.len, r.nd, fun a ha => ?_, (let ⟨_, m1, m2⟩ := (r.cel i p c e1 e2).mut hd; r.tb.put o m1 m2), fun j a d f1 f2 => ?_⟩
  · by_cases q : a = p
    · rw [q, upd_same]
      simp
    · rw [upd_ne q]
      exact r.trk a ha
  · by_cases hj : i = j
    · subst hj
      rw [e1] at f1
      cases f1
      rw [List.getElem?_set_self (List.getElem?_eq_some_iff.mp e2).1] at f2
      cases f2
      exact hc
    · rw [List.getElem?_set_ne hj] at f2
      have q : a ≠ p := fun z => hj (nodup_get r.nd e1 (z ▸ f1))
      refine (r.cel j a d f1 f2).grow (Grow.refl ι G) ?_ fun u e => by rw [upd_ne q]; exact e
      cases hd : d.free
      · exact .inr rfl
      · exact .inl ((r.cel j a d f1 f2).free hd)
/-- a cell is frozen, or locked -/
theorem RelH.mark (r : RelH T ι G μ H) {i : Nat} {a : Addr} {c c' : Cell} {o : HO} (hc : μ[i]? = some c) (hd : c.free = true) (ha : ι[i]? = some a) (hH : ∀ b, b ≠ a → H' b = H b) (ho : H' a = some (rl o))
    (hc' : CellAt T ι (upd G a o) H' a c') (hp : ∀ o', o ≠ pinG o' := by intro o' z; cases z) : Grow ι ι G (upd G a o) ∧ RelH T ι (upd G a o) (μ.set i c') H' := by
  have hg : G a = none := (r.cel i a c ha hc).free hd
  have g : Grow ι ι G (upd G a o) := ⟨fun _ _ e => e, Evl.Ex.new hg⟩
  refine ⟨g, ⟨fun b u e => ?_⟩, by rw [List.length_set]; exact r.len, r.nd, fun b hb => ?_, r.tb.keep (fun b o' e => ?_) (fun b u e hs => ?_) (fun _ h => .inl h) (fun b ps e z => by
      obtain ⟨w, m1, m2⟩ := (r.cel i a c ha hc).mut hd
      rw [upd_ne fun z => by
        rw [z, m1] at e
        cases e
        exact m2 (.inl ⟨_, rfl⟩)]
      exact z), fun j b d f1 f2 => ?_⟩
  · by_cases q : b = a
    · subst q
      rw [upd_same] at e
      cases e
      exact ho
    · rw [upd_ne q] at e
      rw [hH b q]
      exact r.fz.at_ b u e
  · by_cases q : b = a
    · rw [q, ho]; simp
    · rw [hH b q]; exact r.trk b hb
  · by_cases q : b = a
    · subst q
      rw [upd_same] at e
      exact absurd (Option.some.inj e) (hp o')
    · rw [upd_ne q] at e
      exact e
  · obtain ⟨w, m1, m2⟩ := (r.cel i a c ha hc).mut hd
    have q : b ≠ a := fun z => by
      rw [z, m1] at e
      cases e
      exact m2 hs
    rw [hH b q]
    exact e
  · by_cases hj : i = j
    · subst hj
      rw [List.getElem?_set_self (List.getElem?_eq_some_iff.mp hc).1] at f2
      cases f2
      rw [ha] at f1
      cases f1
      exact hc'
    · rw [List.getElem?_set_ne hj] at f2
      have q : b ≠ a := fun z => hj (nodup_get r.nd ha (z ▸ f1))
      refine (r.cel j b d f1 f2).grow g ?_ fun _ e => by rw [hH b q]; exact e
      cases hd : d.free
      · exact .inr rfl
      · exact .inl (by rw [upd_ne q]; exact (r.cel j b d f1 f2).free hd)
theorem RelH.addr (r : RelH T ι G μ H) {i : Nat} {c : Cell} (hc : μ[i]? = some c) : ∃ a, ι[i]? = some a :=
  ⟨_, List.getElem?_eq_getElem (by rw [r.len]; exact (List.getElem?_eq_some_iff.mp hc).1)⟩
theorem RelH.thaw (r : RelH T ι G μ H) {i : Nat} {d : D} (h : thaw i μ = some (d, μ')) : ∃ G', Grow ι ι G G' ∧ RelH T ι G' μ' H ∧ ∀ a, ι[i]? = some a → RepD T ι G' (.ref a) d := by
  unfold Co.thaw at h
  split at h
  · rename_i xs hc
    cases h
    obtain ⟨a, ha⟩ := r.addr hc
    cases r.cel i a _ ha hc with
    | @lst vs _ h1 h2 h3 =>
      obtain ⟨g, R⟩ := r.mark (c' := .dead) (o := .lst vs) hc rfl ha (fun _ _ => rfl) h2 .dead
      exact ⟨_, g, R, fun b hb => by rw [ha] at hb; cases hb; exact .lst (.inl upd_same) (h3.mono g)⟩
  · rename_i c fs hc
    cases h
    obtain ⟨a, ha⟩ := r.addr hc
    cases r.cel i a _ ha hc with
    | @ins dx _ vs _ h1 h2 h3 =>
      obtain ⟨g, R⟩ := r.mark (c' := .dead) (o := .ins (T.cA c) dx vs) hc rfl ha (fun _ _ => rfl) h2 .dead
      exact ⟨_, g, R, fun b hb => by rw [ha] at hb; cases hb; exact .ins upd_same (h3.mono g)⟩
  · cases h
/-- .. a dict: the record is pinned -/
theorem RelH.thawD (r : RelH T ι G μ H) {i : Nat} {t : Bool} {kvs : List (D × D)} {a : Addr} (hc : μ[i]? = some (.dic t kvs)) (ha : ι[i]? = some a) : ∃ u, H a = some u ∧ Mut (some u) ∧
    ∀ od, ∃ G', Grow ι ι G G' ∧ RelH T ι G' (μ.set i .dead) (upd H a (.frz od u)) ∧ RepD T ι G' (.ref a) (.dic t kvs) := by
  cases r.cel i a _ ha hc with
  | dicK h1 h2 h3 =>
    refine ⟨_, h2, trivial, fun od => ?_⟩
    obtain ⟨g, R⟩ := r.mark (c' := .dead) (o := .frz od (.dK _)) (H' := L2.upd H a (.frz od (.dK _))) hc rfl ha (fun _ q => upd_ne q) upd_same .dead
    exact ⟨_, g, R, .dicK upd_same (h3.mono g)⟩
  | dicT h1 h2 h3 =>
    refine ⟨_, h2, trivial, fun od => ?_⟩
    obtain ⟨g, R⟩ := r.mark (c' := .dead) (o := .frz od (.dT _)) (H' := L2.upd H a (.frz od (.dT _))) hc rfl ha (fun _ q => upd_ne q) upd_same .dead
    exact ⟨_, g, R, .dicT upd_same (h3.mono g)⟩
/-- a dict's cell is locked; and freed again -/
theorem RelH.lock (r : RelH T ι G μ H) {i : Nat} {t : Bool} {kvs : List (D × D)} {a : Addr} (hc : μ[i]? = some (.dic t kvs)) (ha : ι[i]? = some a) : ∃ u, H a = some u ∧ Mut (some u) ∧ G a = none ∧
    ∀ od, Grow ι ι G (upd G a (.frz od (.frz od u))) ∧ RelH T ι (upd G a (.frz od (.frz od u))) (μ.set i (.ldic t kvs)) (upd H a (.frz od u)) := by
  cases r.cel i a _ ha hc with
  | @dicK vs _ h1 h2 h3 =>
    refine ⟨_, h2, trivial, h1, fun od => ?_⟩
    have g : Grow ι ι G (L2.upd G a (.frz od (.frz od (.dK vs)))) := ⟨fun _ _ e => e, Evl.Ex.new h1⟩
    exact r.mark (o := .frz od (.frz od (.dK vs))) (H' := L2.upd H a (.frz od (.dK vs))) hc rfl ha (fun _ q => upd_ne q) upd_same (.ldicK upd_same upd_same (h3.mono g))
  | @dicT vs _ h1 h2 h3 =>
    refine ⟨_, h2, trivial, h1, fun od => ?_⟩
    have g : Grow ι ι G (L2.upd G a (.frz od (.frz od (.dT vs)))) := ⟨fun _ _ e => e, Evl.Ex.new h1⟩
    exact r.mark (o := .frz od (.frz od (.dT vs))) (H' := L2.upd H a (.frz od (.dT vs))) hc rfl ha (fun _ q => upd_ne q) upd_same (.ldicT upd_same upd_same (h3.mono g))
/-- G without what stands at a -/
def out (G : Hp) (a : Addr) : Hp := fun b => if b = a then none else G b
theorem out_ne {G : Hp} {a b : Addr} (h : b ≠ a) : out G a b = G b := if_neg h
theorem out_same {G : Hp} {a : Addr} : out G a a = none := if_pos rfl
section
variable {a : Addr} {od : Obj} {w : HO} (hw : G a = some (.frz od (.frz od w)))
include hw
theorem out_at {b : Addr} {u : HO} (e : G b = some u) (h : ∀ o o' x, u ≠ .frz o (.frz o' x)) : out G a b = some u := by
  rw [out_ne fun z => by
    rw [z, hw] at e
    cases e
    exact h _ _ _ rfl]
  exact e
theorem out_rd {b : Addr} {u : HO} (e : Rd G b u) (h : ∀ o o' x, u ≠ .frz o (.frz o' x)) (h2 : ∀ o x, u ≠ .frz o x) : Rd (out G a) b u := by
  rcases e with e | ⟨o, e⟩
  · exact .inl (out_at hw e h)
  · exact .inr ⟨o, out_at hw e fun o o' x z => by cases z; exact h2 _ _ rfl⟩
mutual
theorem RepD.outk : ∀ {v : V} {d : D}, RepD T ι G v d → RepD T ι (out G a) v d
  | _, _, .non => .non
  | _, _, .bl b => .bl b
  | _, _, .int b => .int b
  | _, _, .str b => .str b
  | _, _, .tup e r => .tup (out_at hw e (by simp)) r.outk
  | _, _, .wtup e r => .wtup (e.elim (fun z => .inl (out_rd hw z (by simp) (by simp))) .inr) r.outk
  | _, _, .lst e r => .lst (out_rd hw e (by simp) (by simp)) r.outk
  | _, _, .dicK e r => .dicK (out_at hw e (by simp)) r.outk
  | _, _, .dicT e r => .dicT (out_at hw e (by simp)) r.outk
  | _, _, .ins e r => .ins (out_at hw e (by simp)) r.outk
  | _, _, .cell e => .cell e
theorem RepL.outk : ∀ {v : List V} {d : List D}, RepL T ι G v d → RepL T ι (out G a) v d
  | _, _, .nil => .nil
  | _, _, .cons h r => .cons h.outk r.outk
theorem RepK.outk : ∀ {v : List (Key × V)} {d : List (D × D)}, RepK T ι G v d → RepK T ι (out G a) v d
  | _, _, .nil => .nil
  | _, _, .cons hk h r => .cons hk h.outk r.outk
theorem RepT.outk : ∀ {v : List (List Key × V)} {d : List (D × D)}, RepT T ι G v d → RepT T ι (out G a) v d
  | _, _, .nil => .nil
  | _, _, .cons hk h r => .cons hk h.outk r.outk
theorem RepF.outk : ∀ {v : List (Str × V)} {d : List (Nat × D)}, RepF T ι G v d → RepF T ι (out G a) v d
  | _, _, .nil => .nil
  | _, _, .cons h r => .cons h.outk r.outk
end
end
theorem RelS.outk {a : Addr} {od : Obj} {w : HO} (hw : G a = some (.frz od (.frz od w))) (r : RelS T ι G env σ) : RelS T ι (out G a) env σ := ⟨r.len, fun i d e => by
  obtain ⟨v, h1, h2⟩ := r.at_ i d e
  exact ⟨v, h1, h2.outk hw⟩⟩
/-- what was locked is free again: (ι0, G0) what was before -/
theorem RelH.unlock {ι0 : List Addr} {G0 H0 : Hp} {μ0 : Store} (r0 : RelH T ι0 G0 μ0 H0) {i : Nat} {t : Bool} {kvs : List (D × D)} {a : Addr} {u : HO} {od : Obj} (hc : μ0[i]? = some (.dic t kvs)) (ha : ι0[i]? = some a) (hu : H0 a = some u)
    (g : Grow ι0 ι (upd G0 a (.frz od (.frz od u))) G) (r : RelH T ι G μ H) : H a = some (.frz od u) ∧ Grow ι0 ι G0 (out G a) ∧ RelH T ι (out G a) (μ.set i (.dic t kvs)) (upd H a u) := by
  have hw : G a = some (.frz od (.frz od u)) := g.ex _ _ upd_same
  have hn : ∀ o, (HO.frz od (.frz od u)) ≠ pinG o := fun o z => by
    obtain ⟨w, m1, m2⟩ := (r0.cel i a _ ha hc).mut rfl
    rw [hu] at m1
    cases m1
    unfold pinG at z
    injection z with _ z
    injection z with _ z
    exact m2 (.inr ⟨_, z⟩)
  have g0 : Grow ι0 ι G0 (out G a) := ⟨g.ix, fun b w e => by
    have q : b ≠ a := fun z => by
      rw [z, (r0.cel i a _ ha hc).free rfl] at e
      cases e
    rw [out_ne q]
    exact g.ex b w (by rw [upd_ne q]; exact e)⟩
  have ha' : ι[i]? = some a := g.ix _ _ ha
  refine ⟨r.fz.at_ _ _ hw, g0, ⟨fun b w e => ?_⟩, by rw [List.length_set]; exact r.len, r.nd, fun b hb => ?_, r.tb.keep (fun b o' e => ?_) (fun b w e hs => ?_) (fun _ h => .inl h) (fun b ps e z => by
    unfold out
    split
    · rfl
    · exact z), fun j b d f1 f2 => ?_⟩
  · have q : b ≠ a := fun z => by
      rw [z, out_same] at e
      cases e
    rw [out_ne q] at e
    rw [upd_ne q]
    exact r.fz.at_ b w e
  · by_cases q : b = a
    · rw [q, upd_same]; simp
    · rw [upd_ne q]; exact r.trk b hb
  · have q : b ≠ a := fun z => by
      rw [z, out_same] at e
      cases e
    rw [out_ne q] at e
    exact e
  · have hz := r.fz.at_ _ _ hw
    have q : b ≠ a := fun z => by
      rw [z, hz] at e
      cases e
      rcases hs with ⟨_, z⟩ | ⟨_, z⟩ <;> cases z
    rw [upd_ne q]
    exact e
  · by_cases hj : i = j
    · subst hj
      have hl : i < μ.length := by rw [← r.len]; exact (List.getElem?_eq_some_iff.mp ha').1
      rw [List.getElem?_set_self hl] at f2
      cases f2
      rw [ha'] at f1
      cases f1
      cases r0.cel i a _ ha hc with
      | dicK h1 h2 h3 =>
        rw [hu] at h2
        cases h2
        exact .dicK out_same upd_same (h3.mono g0)
      | dicT h1 h2 h3 =>
        rw [hu] at h2
        cases h2
        exact .dicT out_same upd_same (h3.mono g0)
    · rw [List.getElem?_set_ne hj] at f2
      have q : b ≠ a := fun z => hj (nodup_get r.nd ha' (z ▸ f1))
      cases r.cel j b d f1 f2 with
      | dead => exact .dead
      | lst h1 h2 h3 => exact .lst (by rw [out_ne q]; exact h1) (by rw [upd_ne q]; exact h2) (h3.outk hw)
      | dicK h1 h2 h3 => exact .dicK (by rw [out_ne q]; exact h1) (by rw [upd_ne q]; exact h2) (h3.outk hw)
      | dicT h1 h2 h3 => exact .dicT (by rw [out_ne q]; exact h1) (by rw [upd_ne q]; exact h2) (h3.outk hw)
      | ins h1 h2 h3 => exact .ins (by rw [out_ne q]; exact h1) (by rw [upd_ne q]; exact h2) (h3.outk hw)
      | ldicK h1 h2 h3 => exact .ldicK (by rw [out_ne q]; exact h1) (by rw [upd_ne q]; exact h2) (h3.outk hw)
      | ldicT h1 h2 h3 => exact .ldicT (by rw [out_ne q]; exact h1) (by rw [upd_ne q]; exact h2) (h3.outk hw)
      | clo h0 h1 h2 k1 k2 h3 h4 => exact .clo h0 (by rw [out_ne q]; exact h1) (by rw [upd_ne q]; exact h2) k1 k2 (h3.mono fun b o e => (out_ne (fun z => by
          rw [z, hw] at e
          exact hn o (Option.some.inj e))).trans e) (h4.outk hw)
/-- the cells behind n go -/
theorem keeps_at : ∀ {n : Nat} {μ μ' : Store} {i : Nat} {c' : Cell}, keeps n μ μ' = true → i < μ.length → μ'[i]? = some c' → μ[i]? = some c' ∨ c'.lt n = true
  | _, [], _, _, _, _, h, _ => by simp at h
  | _, c :: r, [], _, _, h, _, _ => by cases h
  | n, c :: r, d :: s, i, c', h, hi, e => by
    have h' : ((decide (d = c) || d.lt n) && keeps n r s) = true := h
    rw [Bool.and_eq_true, Bool.or_eq_true, decide_eq_true_eq] at h'
    cases i with
    | zero =>
      simp at e
      subst e
      rcases h'.1 with z | z
      · exact .inl (by simp [z])
      · exact .inr z
    | succ i => exact keeps_at (i := i) h'.2 (by simpa using hi) (by simpa using e)
theorem CellAt.back {n : Nat} {a : Addr} {c : Cell} (h : CellAt T ι G H a c) (e : c.lt n = true) : CellAt T (ι.take n) G H a c := by
  cases h with
  | dead => exact .dead
  | lst h1 h2 h3 => exact .lst h1 h2 (h3.back e)
  | dicK h1 h2 h3 => exact .dicK h1 h2 (h3.back e)
  | dicT h1 h2 h3 => exact .dicT h1 h2 (h3.back e)
  | ins h1 h2 h3 => exact .ins h1 h2 (h3.back e)
  | ldicK h1 h2 h3 => exact .ldicK h1 h2 (h3.back e)
  | ldicT h1 h2 h3 => exact .ldicT h1 h2 (h3.back e)
  | clo h0 h1 h2 k1 k2 h3 h4 => exact .clo h0 h1 h2 k1 k2 h3 (h4.back e)
mutual
theorem RepD.ltn : ∀ {v : V} {d : D}, RepD T ι G v d → d.lt ι.length = true
  | _, _, .non => rfl
  | _, _, .bl b => rfl
  | _, _, .int b => rfl
  | _, _, .str b => rfl
  | _, _, .tup e r => by rw [lt_tup]; exact r.ltn
  | _, _, .wtup e r => by unfold D.lt; exact r.ltn
  | _, _, .lst e r => by rw [lt_lst]; exact r.ltn
  | _, _, .dicK e r => by rw [lt_dic]; exact r.ltn
  | _, _, .dicT e r => by rw [lt_dic]; exact r.ltn
  | _, _, .ins e r => by rw [lt_ins]; exact r.ltn
  | _, _, .cell e => by rw [lt_cell]; exact decide_eq_true (List.getElem?_eq_some_iff.mp e).1
theorem RepL.ltn : ∀ {v : List V} {d : List D}, RepL T ι G v d → D.lts ι.length d = true
  | _, _, .nil => rfl
  | _, _, .cons h r => by rw [lts_cons, h.ltn, r.ltn]; rfl
theorem RepK.ltn : ∀ {v : List (Key × V)} {d : List (D × D)}, RepK T ι G v d → D.ltp ι.length d = true
  | _, _, .nil => rfl
  | _, _, .cons (k := k) _ h r => by rw [ltp_cons, h.ltn, r.ltn]; cases k <;> rfl
theorem RepT.ltn : ∀ {v : List (List Key × V)} {d : List (D × D)}, RepT T ι G v d → D.ltp ι.length d = true
  | _, _, .nil => rfl
  | _, _, .cons (k := k) _ h r => by
    have e : ∀ n, ∀ l : List Key, D.lts n (l.map kD) = true := fun n l => lts_map n kD l fun x _ => by cases x <;> rfl
    rw [ltp_cons, h.ltn, r.ltn]
    show (D.lt _ (.tup _) && true && true) = true
    rw [lt_tup, e]
    rfl
theorem RepF.ltn : ∀ {v : List (Str × V)} {d : List (Nat × D)}, RepF T ι G v d → D.ltf ι.length d = true
  | _, _, .nil => rfl
  | _, _, .cons h r => by rw [ltf_cons, h.ltn, r.ltn]; rfl
end
theorem CellAt.ltn {a : Addr} {c : Cell} (h : CellAt T ι G H a c) : c.lt ι.length = true := by
  cases h with
  | dead => rfl
  | lst h1 h2 h3 => exact h3.ltn
  | dicK h1 h2 h3 => exact h3.ltn
  | dicT h1 h2 h3 => exact h3.ltn
  | ins h1 h2 h3 => exact h3.ltn
  | ldicK h1 h2 h3 => exact h3.ltn
  | ldicT h1 h2 h3 => exact h3.ltn
  | clo _ _ _ _ _ _ h => exact h.ltn
/-- .. told by the cells of before -/
theorem RelH.leave {ι0 : List Addr} {G0 H0 : Hp} {μ0 : Store} (r0 : RelH T ι0 G0 μ0 H0) (g : Grow ι0 ι G0 G) (r : RelH T ι G μ H) (h : keeps μ0.length μ0 μ = true) : Grow ι0 (ι.take μ0.length) G0 G ∧ RelH T (ι.take μ0.length) G (μ.take μ0.length) H := by
  have hix : ∀ i a, ι0[i]? = some a → (ι.take μ0.length)[i]? = some a := fun i a e => lt_back (by rw [← r0.len]; exact (List.getElem?_eq_some_iff.mp e).1) (g.ix i a e)
  refine ⟨⟨hix, g.ex⟩, r.fz, by rw [List.length_take, List.length_take, r.len], List.Sublist.nodup (List.take_sublist _ _) r.nd, fun a ha => r.trk a (List.mem_of_mem_take ha), r.tb.keep (fun _ _ e => e) (fun _ _ e _ => e) (fun a ha => .inl (List.mem_of_mem_take ha)) (fun _ _ _ e => e), fun i a c e1 e2 => ?_⟩
  rw [List.getElem?_take] at e1 e2
  split at e1
  · rename_i hi
    rw [if_pos hi] at e2
    have hca := r.cel i a c e1 e2
    rcases keeps_at h hi e2 with z | z
    · obtain ⟨b, hb⟩ : ∃ b, ι0[i]? = some b := ⟨_, List.getElem?_eq_getElem (by rw [r0.len]; exact hi)⟩
      have l := (r0.cel i b c hb z).ltn
      rw [r0.len] at l
      exact hca.back l
    · exact hca.back z
  · cases e1
theorem RelS.back {n : Nat} (r : RelS T ι G env σ) (h : (env.all fun o => match o with
    | some d => d.lt n
    | none => true) = true) : RelS T (ι.take n) G env σ := ⟨r.len, fun i d e => by
  obtain ⟨v, h1, h2⟩ := r.at_ i d e
  have := List.all_eq_true.mp h _ (List.mem_of_getElem? e)
  exact ⟨v, h1, h2.back this⟩⟩
/-! ### views -/
theorem RelH.lstOf (r : RelH T ι G μ H) {v : V} {d : D} {xs : List D} (h : RepD T ι G v d) (e : lstOf μ d = some xs) : ∃ a vs, v = .ref a ∧ Rd H a (.lst vs) ∧ RepL T ι G vs xs := by
  cases h with
  | lst h1 h2 =>
    cases e
    exact ⟨_, _, rfl, r.fz.rdl h1, h2⟩
  | cell hi =>
    rename_i a i
    unfold Co.lstOf at e
    simp only at e
    split at e
    · rename_i ys hc
      cases e
      cases r.cel i a _ hi hc with
      | lst h1 h2 h3 => exact ⟨a, _, rfl, .inl h2, h3⟩
    · cases e
  | _ => cases e
theorem RelH.seqOf (r : RelH T ι G μ H) {v : V} {d : D} {xs : List D} (h : RepD T ι G v d) (e : seqOf μ d = some xs) : ∃ a vs, v = .ref a ∧ (SqL T.K H a vs ∨ SqT T.K H a vs) ∧ RepL T ι G vs xs := by
  cases h with
  | tup h1 h2 =>
    cases e
    exact ⟨_, _, rfl, .inr (.inl (.inl (r.fz.tup h1))), h2⟩
  | wtup h1 h2 =>
    cases e
    exact ⟨_, _, rfl, .inr (r.fz.sqt h1), h2⟩
  | lst h1 h2 =>
    cases e
    exact ⟨_, _, rfl, .inl (.inl (r.fz.rdl h1)), h2⟩
  | cell hi =>
    have e' : Co.lstOf μ (.cell _) = some xs := e
    obtain ⟨a, vs, q1, q2, q3⟩ := r.lstOf (.cell hi) e'
    exact ⟨a, vs, q1, .inl (.inl q2), q3⟩
  | _ => cases e
theorem RelH.dicOf (r : RelH T ι G μ H) {v : V} {d : D} {t : Bool} {ds : List (D × D)} (h : RepD T ι G v d) (e : dicOf μ d = some (t, ds)) :
    ∃ a, v = .ref a ∧ ((t = false ∧ ∃ kvs, Rd H a (.dK kvs) ∧ RepK T ι G kvs ds) ∨ (t = true ∧ ∃ kvs, Rd H a (.dT kvs) ∧ RepT T ι G kvs ds)) := by
  cases h with
  | dicK h1 h2 =>
    cases e
    exact ⟨_, rfl, .inl ⟨rfl, _, .inr ⟨_, r.fz.dk h1⟩, h2⟩⟩
  | dicT h1 h2 =>
    cases e
    exact ⟨_, rfl, .inr ⟨rfl, _, .inr ⟨_, r.fz.dt h1⟩, h2⟩⟩
  | cell hi =>
    rename_i a i
    unfold Co.dicOf at e
    simp only at e
    split at e
    · rename_i t' ys hc
      cases e
      cases r.cel i a _ hi hc with
      | dicK h1 h2 h3 => exact ⟨a, rfl, .inl ⟨rfl, _, .inl h2, h3⟩⟩
      | dicT h1 h2 h3 => exact ⟨a, rfl, .inr ⟨rfl, _, .inl h2, h3⟩⟩
    · rename_i t' ys hc
      cases e
      cases r.cel i a _ hi hc with
      | ldicK h1 h2 h3 => exact ⟨a, rfl, .inl ⟨rfl, _, .inr ⟨_, h2⟩, h3⟩⟩
      | ldicT h1 h2 h3 => exact ⟨a, rfl, .inr ⟨rfl, _, .inr ⟨_, h2⟩, h3⟩⟩
    · cases e
  | _ => cases e
theorem RelH.insOf (r : RelH T ι G μ H) {v : V} {d : D} {c : Nat} {ds : List (Nat × D)} (h : RepD T ι G v d) (e : insOf μ d = some (c, ds)) :
    ∃ a dx vs, v = .ref a ∧ H a = some (.ins (T.cA c) dx vs) ∧ RepF T ι G vs ds := by
  cases h with
  | ins h1 h2 =>
    cases e
    exact ⟨_, _, _, rfl, r.fz.ins h1, h2⟩
  | cell hi =>
    rename_i a i
    unfold Co.insOf at e
    simp only at e
    split at e
    · rename_i t' ys hc
      cases e
      cases r.cel i a _ hi hc with
      | ins h1 h2 h3 => exact ⟨a, _, _, rfl, h2, h3⟩
    · cases e
  | _ => cases e
end
end Co

set_option linter.all false
set_option maxRecDepth 100000
set_option Elab.async false
/-! Co5: the small language's expressions against the readings. -/
namespace Co
open PySem L2
/-! ### judgements by data -/
section
variable {X : Cx}
theorem PE.dyn {e : Expr} {t' : TE} (h : ∀ σ H Q, t' σ H Q → ∃ t, PE X e t ∧ t σ H Q) : PE X e t' := ⟨fun pins s σ H Q I q => by
  obtain ⟨t, h1, h2⟩ := h σ H Q q
  exact h1.run pins s σ H Q I h2⟩
theorem PT.dyn {e : Expr} {t' : TT} (h : ∀ σ H Q, t' σ H Q → ∃ t, PT X e t ∧ t σ H Q) : PT X e t' := ⟨fun pins s σ H Q I q => by
  obtain ⟨t, h1, h2⟩ := h σ H Q q
  exact h1.run pins s σ H Q I h2⟩
theorem PA.dyn {e : List Expr} {t' : TA} (h : ∀ σ H Q, t' σ H Q → ∃ t, PA X e t ∧ t σ H Q) : PA X e t' := ⟨fun pos pins s σ H Q I q => by
  obtain ⟨t, h1, h2⟩ := h σ H Q q
  exact h1.run pos pins s σ H Q I h2⟩
theorem PS.dyn {e : Stmt} {t' : TS} (h : ∀ D σ H, t' D σ H → ∃ t, PS X e t ∧ t D σ H) : PS X e t' := ⟨fun pins s σ H D I q => by
  obtain ⟨t, h1, h2⟩ := h D σ H q
  exact h1.run pins s σ H D I h2⟩
theorem PSs.dyn {e : List Stmt} {t' : TS} (h : ∀ D σ H, t' D σ H → ∃ t, PSs X e t ∧ t D σ H) : PSs X e t' := ⟨fun pins s σ H D I q => by
  obtain ⟨t, h1, h2⟩ := h D σ H q
  exact h1.run pins s σ H D I h2⟩
end
/-! ### what is known of an end -/
def RepX (T : Nam) (ι : List Addr) (G H : Hp) (cls : Value) (dd : Option Addr) (x : Exn) : Prop :=
  cls = .ref (T.cA x.c) ∧ ((dd = none ∧ x.fs = []) ∨ ∃ d vs, dd = some d ∧ H d = some (.xd vs) ∧ RepF T ι G vs x.fs)
def GCt {α β : Type} (T : Nam) (R : List Addr → Hp → β → α → Prop) (W : WX) (σ : L2.St) (ι : List Addr) (G : Hp) (r : Res Exn α) (Q : β → Hp → Prop) : Prop := match r with
  | .ok d μ => ∀ (v : β) (ι' : List Addr) (G' H : Hp), Grow ι ι' G G' → RelH T ι' G' μ H → R ι' G' v d → Q v H
  | .ex x μ => ∀ (cls : Value) (dd : Option Addr) (ι' : List Addr) (G' H : Hp), Grow ι ι' G G' → RelH T ι' G' μ H → RepX T ι' G' H cls dd x → W cls dd σ H
  | .bad => False
abbrev Ct (T : Nam) := GCt T (RepD T)
abbrev CtA (T : Nam) := GCt T (RepL T)
section
variable {T : Nam} {W : WX} {σ : L2.St} {ι ι' : List Addr} {G G' : Hp} {α β α' β' : Type} {R : List Addr → Hp → β → α → Prop} {R' : List Addr → Hp → β' → α' → Prop} {Q : β → Hp → Prop} {Q' : β' → Hp → Prop}
theorem GCt.grow {r : Res Exn α} (h : GCt T R W σ ι G r Q) (g : Grow ι ι' G G') : GCt T R W σ ι' G' r Q := by
  cases r with
  | ok d μ => exact fun v ι2 G2 H g2 => h v ι2 G2 H (g.trans g2)
  | ex x μ => exact fun cls dd ι2 G2 H g2 => h cls dd ι2 G2 H (g.trans g2)
  | bad => exact h
theorem GCt.bind {r : Res Exn α'} {F : α' → Store → Res Exn α} (h : GCt T R W σ ι G (r.bind F) Q)
    (k : ∀ d μ v ι' G' H, r = .ok d μ → Grow ι ι' G G' → RelH T ι' G' μ H → R' ι' G' v d → GCt T R W σ ι' G' (F d μ) Q → Q' v H) : GCt T R' W σ ι G r Q' := by
  cases r with
  | ok d μ => exact fun v ι2 G2 H g r1 r2 => k d μ v ι2 G2 H rfl g r1 r2 (GCt.grow h g)
  | ex x μ => exact h
  | bad => exact h
theorem GCt.ok {r : Res Exn α} (h : GCt T R W σ ι G r Q) : r ≠ .bad := by
  intro e
  rw [e] at h
  exact h
theorem GCt.ofO {o : Option α} {μ : Store} (h : GCt T R W σ ι G (ofO o μ) Q) : ∃ a, o = some a ∧ GCt T R W σ ι G (.ok a μ) Q := by
  cases o with
  | none => exact h.elim
  | some a => exact ⟨a, rfl, h⟩
end
/-! ### names -/
structure Tx where
  fnm : List (Str × Nat)
  cnm : List (Str × Nat)
  gnm : List (Str × Nat)
  mnm : List Str
  fld : List Str
def visB (sc : Scope) (x : Str) : Bool := match sc.names.lookup x with
  | some .local => true
  | some .cell => true
  | some .free => true
  | _ => false
def glB (sc : Scope) (x : Str) : Bool := match sc.names.lookup x with
  | some .globalImplicit => true
  | _ => false
def dbgB (x : Str) : Bool := (x == ("__debug__" : Str)) || (x == ("__classdict__" : Str)) || (x == ("__name__" : Str))
/-- all that is fixed -/
structure Cq where
  P : Prog
  tx : Tx
  T : Nam
  fA : Nat → Addr
  call : Nat → List D → Store → RD
  k : Nat
  /-- each def's defaults -/
  dfl : List (List D)
  /-- may lambdas be made here: their whole name -/
  lm : Option Str := none
/-- no lambda may be made -/
abbrev Cq.nomk (q : Cq) : Cq := { q with lm := none }
def dV : D → V
  | .non => .non
  | .bl b => .bl b
  | .int i => .int i
  | .str x => .str x
  | _ => .non
def D.lit : D → Bool
  | .non => true
  | .bl _ => true
  | .int _ => true
  | .str x => x.cps.toList.all fun c => decide (c < 0x110000)
  | _ => false
theorem rep_lit {T : Nam} {ι : List Addr} {G : Hp} : ∀ {d : D}, d.lit = true → RepD T ι G (dV d) d
  | .non, _ => .non
  | .bl _, _ => .bl _
  | .int _, _ => .int _
  | .str x, h => .str fun c hc => of_decide_eq_true (List.all_eq_true.mp h c hc)
/-- a def's promise -/
def spC (T : Nam) (call : Nat → List D → Store → RD) (f : Nat) : Sp := fun vs H Q E => ∃ (ι : List Addr) (G : Hp) (μ : Store) (ds : List D), RelH T ι G μ H ∧ RepL T ι G vs ds ∧ Ct T (fun cls dd _ H => E cls dd H) [] ι G (call f ds μ) Q
def dflB (q : Cq) (f : Nat) (dv : List D) : Bool := let l := q.dfl.getD f []
  decide (l.drop (l.length - dv.length) = dv) && dv.all D.lit
structure FnI (q : Cq) (X : Cx) (f : Nat) : Prop where
  ex : ∃ (fd : FuncData) (ps : List Str), FnOk X.prog X.w X.K X.mg X.base (L2.CX X.prog X.w) q.k (q.fA f) fd ps (spC q.T q.call f) ∧ (∀ dv, dflB q f dv = true → ∃ ds, Vals (dv.map dV) ds ∧ Binds X.K fd ps ds) ∧ PySem.W.keepIn X.K (.ref (q.fA f)) = true
def mN (q : Cq) (m : Nat) : Str := q.tx.mnm.getD m ""
def blts : List Str := ["len", "str", "int", "list", "tuple", "dict", "set", "sorted", "sum", "abs", "min", "max", "divmod", "isinstance", "range", "enumerate", "zip", "reversed", "bool"]
def kdV (q : Cq) : Kd → Value
  | .own c => .ref (q.T.cA c)
  | .ty n => .type n
def tyV' (q : Cq) : Ty → Value
  | .own c => .ref (q.T.cA c)
  | t => .type (tyN t)
/-- the kinds of things told apart -/
def kdOk (q : Cq) : Kd → Bool
  | .own c => decide (c < q.P.sub.length)
  | .ty n => ["NoneType", "bool", "int", "str", "tuple", "list", "dict"].contains n
def tyOk (q : Cq) : Ty → Bool
  | .own c => decide (c < q.P.sub.length)
  | _ => true
structure Lk (q : Cq) (mg : Str → Option Value) : Prop where
  fn : ∀ x f, q.tx.fnm.lookup x = some f → mg x = some (.ref (q.fA f))
  kp : ∀ x f, q.tx.fnm.lookup x = some f → PySem.W.keepIn q.T.K (.ref (q.fA f)) = true
  kpc : ∀ x c, q.tx.cnm.lookup x = some c → PySem.W.keepIn q.T.K (.ref (q.T.cA c)) = true
  con : ∀ x j d, q.tx.gnm.lookup x = some j → q.P.consts[j]? = some d → ∃ v u, mg x = some u ∧ RelV v u ∧ ∀ ι G, RepD q.T ι G v d
  blt : ∀ x ∈ blts, mg x = none
  cls : ∀ x c, q.tx.cnm.lookup x = some c → mg x = some (.ref (q.T.cA c))
  inj : ∀ f g, q.T.fN f = q.T.fN g → f = g
  at_ : ∀ c f, fokB q.P.fok c f = true → Cls q.T.K (q.T.cA c) ∧ NoAttr q.T.K (q.T.cA c) (q.T.fN f)
  mth : ∀ c m f, (q.P.mth.getD c []).lookup m = some f → Cls q.T.K (q.T.cA c) ∧ Meth q.T.K (q.T.cA c) (mN q m) (q.fA f) ∧ ∀ g, mN q m ≠ q.T.fN g
  kit : ∀ (k : Kd) (t : Ty), kdOk q k = true → tyOk q t = true → PySem.W.kitOne q.T.K (kdV q k) (tyV' q t) = some (isiK q.P.sub k t)
  ity : ∀ c, kdOk q (.own c) = true → ∀ (H : Hp) (a dx : Addr) (fs : List (Str × V)), H a = some (.ins (q.T.cA c) dx fs) → TyOf q.T.K H (.ref a) (.ref (q.T.cA c))
  rdi : ∀ c f, q.P.init.getD c none = some f → PySem.W.readsIn q.T.K (q.T.cA c) (.type "type") = true ∧ PySem.W.specialIn q.T.K (.ref (q.T.cA c)) "__getattribute__" = some (some (.builtin "type.__getattribute__")) ∧
    PySem.W.findCls q.T.K (.ref (q.T.cA c)) (.type "type") "__init__" = some (.val (.ref (q.fA f))) ∧ PySem.W.keepIn q.T.K (.ref (q.fA f)) = true
  mak : ∀ c f, q.P.init.getD c none = some f → Mk q.T.K (q.T.cA c) (q.fA f)
  nlf : ∀ x f, q.tx.fnm.lookup x = some f → q.T.lam f = none
  nlm : ∀ c m f, (q.P.mth.getD c []).lookup m = some f → q.T.lam f = none
  nli : ∀ c f, q.P.init.getD c none = some f → q.T.lam f = none
/-- the captured values in the heap, known to nobody -/
inductive CapsF (H : Hp) (fr : List Addr) (h : Heap) : List (Str × Addr) → List V → Prop
  | nil : CapsF H fr h [] []
  | cons {x : Str} {c : Addr} {o : Obj} {u : Value} {v : V} {cs : List (Str × Addr)} {vs : List V} : h.get? c = some o → o.data = .cell (some u) → RelV v u → H c = none → c ∉ fr → CapsF H fr h cs vs → CapsF H fr h ((x, c) :: cs) (v :: vs)
/-- what is asked of a lambda's body: called with its captured values, its cells known to nobody -/
def spL (T : Nam) (call : Nat → List D → Store → RD) (lf : Nat) (caps : List V) (v : V) (H : Hp) (Q : VK) : Prop :=
  ∃ (ι : List Addr) (G : Hp) (μ : Store) (cs : List D) (d : D), RelH T ι G μ H ∧ RepL T ι G caps cs ∧ RepD T ι G v d ∧ Ct T (fun _ _ _ _ => False) [] ι G (call lf (cs ++ [d]) μ) Q
structure LamP (P : Program) (w : World) (T : Nam) (mg : Str → Option Value) (base : Heap) (k : Nat) (call : Nat → List D → Store → RD) (lf : Nat) (L : LamD) : Prop where
  run : ∀ (A : Around) (outer : List PySem.Env) (s : Shared) (H : Hp) (cs : List (Str × Addr)) (f c : Addr) (pm ctv : Value) (caps : List V) (v : V) (u : Value) (Q : VK), Room k A → Env0 P w T.K mg base A outer s H → cs.map (·.1) = L.cap → (cs.map (·.2)).Nodup →
    CapsF H (frs outer) s.heap cs caps → RelV v u → s.heap.get? f = some (lamO L cs pm c ctv) → H c = some (LamX.CodeO c L.qual) → spL T call lf caps v H Q →
    codeAny (model P w) A (.call (.ref f) ⟨[u], []⟩) (CR (L2.CX P w) outer P w H s Q fun _ _ _ => False) s
/-- lambdas may be made here -/
structure MkOk (q : Cq) (X : Cx) (ql : Str) : Prop where
  fn : ∀ y, X.fn y = true
  st : X.stack = X.env :: X.outer
  fr : X.env.frame = some X.env.locals
  qu : X.env.qual ++ "<lambda>" = ql
  co : ∃ k p, X.env.code = .ref k ∧ LamX.TabB X.base X.mg k p ∧ (p, ql) ∈ q.T.tb ∧ ∀ z ∈ q.T.tb, z.1 = p → z.2 = ql
structure XOk (q : Cq) (sc : Scope) (N : List Str) (W : WX) (X : Cx) : Prop where
  eK : X.K = q.T.K
  eS : X.env.scope = sc
  eN : X.N = N
  nd : N.Nodup
  calm : X.calm = true
  room : Room (q.k + 1) X.A
  tk : Takes X W
  lk : Lk q X.mg
  fns : ∀ f, q.T.lam f = none → (∃ ds μ, q.call f ds μ ≠ .bad) → FnI q X f
  lams : ∀ lf L, q.T.lam lf = some L → (∃ ds μ, q.call lf ds μ ≠ .bad) → LamP X.prog X.w q.T X.mg X.base q.k q.call lf L
  lmk : ∀ ql, q.lm = some ql → MkOk q X ql
theorem Lk.set {q : Cq} {mg : Str → Option Value} (l : Lk q mg) (m : Option Str) : Lk { q with lm := m } mg := ⟨l.fn, l.kp, l.kpc, l.con, l.blt, l.cls, l.inj, l.at_, l.mth, l.kit, l.ity, l.rdi, l.mak, l.nlf, l.nlm, l.nli⟩
theorem Lk.nomk {q : Cq} {mg : Str → Option Value} (l : Lk q mg) : Lk q.nomk mg := l.set none
section
variable {q : Cq} {sc : Scope} {N : List Str} {W : WX} {X : Cx}
theorem XOk.hu (x : XOk q sc N W X) : X.A.units + 64 < cLine := x.room.units
theorem XOk.hu1 (x : XOk q sc N W X) : X.A.units + 1 < cLine := by have := x.room.units; omega
theorem XOk.vis (x : XOk q sc N W X) {y : Str} (h : visB sc y = true) : Vis X.env.scope y := by
  unfold visB at h
  unfold Vis
  rw [x.eS]
  split at h
  · exact .inl (by assumption)
  · exact .inr (.inl (by assumption))
  · exact .inr (.inr (by assumption))
  · cases h
theorem XOk.gl (x : XOk q sc N W X) {y : Str} (h : glB sc y = true) : Gl X y := by
  unfold glB at h
  show X.env.scope.names.lookup y = _
  rw [x.eS]
  split at h
  · assumption
  · cases h
end
theorem dbg1 {x : Str} (h : dbgB x = false) : (x == ("__debug__" : Str)) = false := by
  unfold dbgB at h
  simp only [Bool.or_eq_false_iff] at h
  exact h.1.1
theorem dbg2 {x : Str} (h : dbgB x = false) : (x == ("__classdict__" : Str)) = false := by
  unfold dbgB at h
  simp only [Bool.or_eq_false_iff] at h
  exact h.1.2
theorem dbg3 {x : Str} (h : dbgB x = false) : x ≠ ("__name__" : Str) := by
  unfold dbgB at h
  simp only [Bool.or_eq_false_iff] at h
  exact beq_eq_false_iff_ne.mp h.2
/-! ### readings told by the evaluator -/
def tE (q : Cq) (W : WX) (c : CE) : TE := fun σ H Q => ∃ (env : Env) (μ : Store) (ι : List Addr) (G : Hp), RelH q.T ι G μ H ∧ RelS q.T ι G env σ ∧ Ct q.T W σ ι G (evE q.P q.call c env μ) Q
def tA (q : Cq) (W : WX) (c : CE) : TA := fun σ H Q => ∃ (env : Env) (μ : Store) (ι : List Addr) (G : Hp), RelH q.T ι G μ H ∧ RelS q.T ι G env σ ∧ CtA q.T W σ ι G (evA q.P q.call c env μ) Q
/-- what a test comes to -/
def bOf (r : RD) : Res Exn Bool := r.bind fun d μ => ofO (truth μ d) μ
def RepB (_ : List Addr) (_ : Hp) (b c : Bool) : Prop := b = c
def tT (q : Cq) (W : WX) (c : CE) : TT := fun σ H Q => ∃ (env : Env) (μ : Store) (ι : List Addr) (G : Hp), RelH q.T ι G μ H ∧ RelS q.T ι G env σ ∧ GCt q.T RepB W σ ι G (bOf (evE q.P q.call c env μ)) Q
def tO (q : Cq) (W : WX) (c : CE) : TO := fun σ H Q => ∃ (env : Env) (μ : Store) (ι : List Addr) (G : Hp), RelH q.T ι G μ H ∧ RelS q.T ι G env σ ∧ GCt q.T (fun _ _ b c => b = c) W σ ι G ((evE q.P q.call c env μ).bind fun d μ => ofO (partOf d) μ) Q
/-! ### plain expressions -/
def plE : Expr → Bool
  | .Lambda _ _ _ _ => true
  | .BoolOp .. => true
  | .BinOp .. => true
  | .UnaryOp .. => true
  | .IfExp .. => true
  | .Compare .. => true
  | .Call .. => true
  | .Constant .. => true
  | .Attribute .. => true
  | .Subscript .. => true
  | .Name .. => true
  | .List .. => true
  | .Tuple .. => true
  | .Dict .. => true
  | .ListComp .. => true
  | .JoinedStr .. => true
  | _ => false
theorem pl_star {e : Expr} (h : plE e = true) (es : List Expr) (env : PySem.Env) : starEach (e :: es) env = (false, eval e env) :: starEach es env := by
  cases e <;> first | rfl | exact Bool.noConfusion h
theorem pl_any {pos : Pos} {env : PySem.Env} : ∀ {es : List Expr}, es.all plE = true → (backTo pos (starEach es env)).any (·.1) = false
  | [], _ => rfl
  | e :: es, h => by
    rw [List.all_cons, Bool.and_eq_true] at h
    have ih := pl_any (pos := pos) (env := env) h.2
    rw [pl_star h.1]
    unfold backTo at ih ⊢
    rw [List.map_cons, List.any_cons, ih]
    rfl
theorem pl_all {pos : Pos} {env : PySem.Env} {es : List Expr} (h : es.all plE = true) : (backTo pos (starEach es env)).all (fun x => !x.1) = true := by
  have e := pl_any (pos := pos) (env := env) h
  rw [List.all_eq_not_any_not]
  simp only [Bool.not_not]
  rw [e]
  rfl
theorem pl_mark {e : Expr} (h : plE e = true) (op : CmpOp) : behindInMarks op e = false := by
  cases e <;> first | rfl | exact Bool.noConfusion h
def isComp : Expr → Bool
  | .ListComp .. => true
  | _ => false
theorem pl_swap {e : Expr} (h : plE e = true) (h2 : isComp e = false) (t : Option Expr) (line : Nat) (env : PySem.Env) : swapsWith e t line env = pure false := by
  cases e <;> first | rfl | exact Bool.noConfusion h | exact Bool.noConfusion h2
theorem pl_fold {e : Expr} (h : plE e = true) (env : PySem.Env) (x : Value) : foldedSetIterable e env x = pure x := by
  cases e <;> first | rfl | exact Bool.noConfusion h
def noSup : Expr → Bool
  | .Call (.Name _ _) [] [] _ => false
  | _ => true
theorem att_base {o : Expr} (h : noSup o = true) (m : Str) (env : PySem.Env) (w : Sem Value) : attributeBase o m env w = w := by
  unfold attributeBase
  split
  · cases h
  · rfl
theorem pl_ix {e : Expr} (h : plE e = true) : PlainIx e := by
  intro o i
  cases e <;> first | rfl | exact Bool.noConfusion h
end Co

set_option linter.all false
set_option maxRecDepth 100000
set_option Elab.async false
/-! Cl1: a lambda with one parameter and captured names, called. -/
namespace Co
open PySem PySem.Spec PyProof.Rows L2
/-- one parameter x, captured names, globals -/
structure LamSc (L : LamD) (x : Str) : Prop where
  kind : L.sc.kind = .function
  co : L.sc.isCoroutine = false
  gen : L.sc.isGenerator = false
  nocell : ∀ y ∈ L.sc.names, y.2 ≠ .cell
  par : L.sc.names.lookup x = some .local
  cap : ∀ y ∈ L.sc.names, y.2 = .free → y.1 ∈ L.cap
  capf : ∀ y ∈ L.cap, L.sc.names.lookup y = some .free
  nd : (L.cap ++ [x]).Nodup
abbrev lcEnv (L : LamD) (cs : List (Str × Addr)) (l f c : Addr) : PySem.Env := PySem.W.envX L.qual L.sc l f (.ref c) cs
/-- the context of a lambda's body -/
def lcCx (P : Program) (w : World) (K : PySem.W.Frag) (mg : Str → Option Value) (base : Heap) (A : Around) (outer : List PySem.Env) (s : Shared) (H : Hp) (E : XK) (L : LamD) (x : Str) (cs : List (Str × Addr)) (f c : Addr) : Cx where
  prog := P
  w := w
  K := K
  mg := mg
  base := base
  A := A.deeper (lcEnv L cs s.heap.objs.size f c)
  N := L.cap ++ [x]
  s_0 := s
  H_0 := H
  env := lcEnv L cs s.heap.objs.size f c
  outer := outer
  stack := lcEnv L cs s.heap.objs.size f c :: outer
  ex := []
  fn := fun _ => false
  calm := true
  pn := []
  xe := fun e s' => wpAny (model P w) (A.deeper (lcEnv L cs s.heap.objs.size f c)) (leaving (lcEnv L cs s.heap.objs.size f c) e) (fun _ s'' => L2.CX P w outer H s E e s'') (fun e' s'' => L2.CX P w outer H s E e' s'') s'
section
variable {H : Hp} {fr : List Addr} {h h' : Heap} {cs : List (Str × Addr)} {vs : List V}
theorem CapsF.mono (c : CapsF H fr h cs vs) (k : ∀ b o, h.get? b = some o → h'.get? b = some o) : CapsF H fr h' cs vs := by
  induction c with
  | nil => exact .nil
  | cons a b r n f _ ih => exact .cons (k _ _ a) b r n f ih
theorem CapsF.get (c : CapsF H fr h cs vs) {y : Str} {a : Addr} (e : cs.lookup y = some a) : ∃ o u, h.get? a = some o ∧ o.data = .cell (some u) ∧ H a = none ∧ a ∉ fr := by
  induction c with
  | nil => cases e
  | @cons x c o u v cs vs a b r n f _ ih =>
    rw [List.lookup_cons] at e
    split at e
    · cases e
      exact ⟨o, u, a, b, n, f⟩
    · exact ih e
theorem CapsF.len (c : CapsF H fr h cs vs) : vs.length = cs.length := by
  induction c with
  | nil => rfl
  | cons _ _ _ _ _ _ ih => simp [ih]
theorem lookup_at : ∀ {cs : List (Str × Addr)} {i : Nat} {y : Str}, (cs.map (·.1)).Nodup → (cs.map (·.1))[i]? = some y → ∃ a, cs.lookup y = some a ∧ cs[i]? = some (y, a)
  | [], _, _, _, e => by simp at e
  | (x, a) :: r, 0, y, nd, e => by
    simp at e
    subst e
    exact ⟨a, by rw [List.lookup_cons]; simp, by simp⟩
  | (x, a) :: r, i + 1, y, nd, e => by
    simp only [List.map_cons, List.nodup_cons] at nd
    have e' : (r.map (·.1))[i]? = some y := by simpa using e
    obtain ⟨b, h1, h2⟩ := lookup_at nd.2 e'
    have hne : y ≠ x := fun z => nd.1 (by rw [← z]; exact List.mem_of_getElem? e')
    refine ⟨b, ?_, by simpa using h2⟩
    rw [List.lookup_cons]
    have : (y == x) = false := by simpa using hne
    rw [this]
    exact h1
theorem CapsF.at_ (c : CapsF H fr h cs vs) : ∀ {i : Nat} {y : Str} {a : Addr} {v : V}, cs[i]? = some (y, a) → vs[i]? = some v → ∃ u, RelV v u ∧ h.IsCell a (some u) := by
  induction c with
  | nil => intro i y a v e; simp at e
  | @cons x c o u v cs vs a b r n f _ ih =>
    intro i y a' v' e1 e2
    cases i with
    | zero =>
      simp at e1 e2
      obtain ⟨_, rfl⟩ := e1
      subst e2
      exact ⟨u, r, o, a, b⟩
    | succ i => exact ih (by simpa using e1) (by simpa using e2)
end
section
variable {P : Program} {w : World} {K : PySem.W.Frag} {mg : Str → Option Value} {base : Heap} {A : Around} {outer : List PySem.Env} {s : Shared} {H : Hp} {E : XK} {L : LamD} {x : Str} {cs : List (Str × Addr)} {f c : Addr} {caps : List V}
theorem lc_start {h₁ : Heap} {tk : Nat} {v : V} {u : Value} (S : LamSc L x) (hd : A.handled = none) (e0 : Env0 P w K mg base A outer s H) (hcs : cs.map (·.1) = L.cap) (hnd : (cs.map (·.2)).Nodup) (hc : CapsF H (frs outer) s.heap cs caps) (r : RelV v u)
    (hns : h₁.Ns s.heap.objs.size fun y => [(x, u)].reverse.lookup y) (kp : ∀ b o, s.heap.get? b = some o → h₁.get? b = some o) :
    Inv (lcCx P w K mg base A outer s H E L x cs f c) [] (caps.map some ++ [some v]) H { s with heap := h₁, toks := tk } := by
  have noA : ∀ b : Addr, b ∉ (lcCx P w K mg base A outer s H E L x cs f c).ex := fun b z => absurd (show b ∈ ([] : List Addr) from z) (by simp)
  have ndN := S.nd
  have ndc : (cs.map (·.1)).Nodup := by rw [hcs]; exact (List.nodup_append.mp ndN).1
  have has : ∀ y, L.sc.names.lookup y = some .free → ∃ a, cs.lookup y = some a := fun y hy => by
    have hm := S.cap _ (PySem.mem_of_lookup hy) rfl
    obtain ⟨i, hi, e⟩ := List.mem_iff_getElem.mp hm
    have e' : (cs.map (·.1))[i]? = some y := by rw [hcs, List.getElem?_eq_getElem hi, e]
    obtain ⟨a, h1, _⟩ := lookup_at ndc e'
    exact ⟨a, h1⟩
  have lookA : ∀ y a, cs.lookup y = some a → ∃ i, cs[i]? = some (y, a) := fun y a e => by
    obtain ⟨i, hi, e2⟩ := List.mem_iff_getElem.mp (PySem.mem_of_lookup e)
    exact ⟨i, by rw [List.getElem?_eq_getElem hi, e2]⟩
  refine ⟨⟨e0.mod, S.kind, rfl, rfl, Nat.le_refl _, fun y z a h1 h2 => ?_, fun y hy => ?_, fun y a z _ => ?_, fun _ => hd, Around.frames_deeper e0.frames, .inr ⟨rfl, rfl⟩, fun b z => absurd z (noA b), e0.bs, e0.bsz, fun b _ _ => noA b, fun b z => absurd z (noA b), e0.funs, e0.frf⟩,
    rfl, e0.bare, Un.kept kp, ⟨_, hns, fun i y v' e1 e2 e3 => ?_⟩, fun y a e => ?_, e0.hok.fresh (Nat.le_refl _), fun y a e => ?_, fun p hp => absurd (show p ∈ ([] : List (Addr × Obj)) ++ [] from hp) (by simp), e0.hok.kept kp, ?_⟩
  · obtain ⟨i, hi⟩ := lookA y a h1
    obtain ⟨j, hj⟩ := lookA z a h2
    have e1 : (cs.map (·.2))[i]? = some a := by rw [List.getElem?_map, hi]; rfl
    have e2 : (cs.map (·.2))[j]? = some a := by rw [List.getElem?_map, hj]; rfl
    have := nodup_get hnd e1 e2
    subst this
    rw [hi] at hj
    cases hj
    rfl
  · have hy : L.sc.names.lookup y = some .cell ∨ L.sc.names.lookup y = some .free := hy
    rcases hy with hy | hy
    · exact absurd rfl (S.nocell _ (PySem.mem_of_lookup hy))
    · exact has y hy
  · have z : false = true := z
    cases z
  · have e1 : (L.cap ++ [x])[i]? = some y := e1
    have e3 : Vis L.sc y := e3
    have hlc : caps.length = L.cap.length := by rw [hc.len, ← hcs, List.length_map]
    by_cases hi : i < L.cap.length
    · rw [List.getElem?_append_left hi] at e1
      rw [List.getElem?_append_left (by rw [List.length_map, hlc]; exact hi), List.getElem?_map] at e2
      obtain ⟨v2, hv, e2⟩ := Option.map_eq_some_iff.mp e2
      cases e2
      obtain ⟨a, h1, h2⟩ := lookup_at ndc (by rw [hcs]; exact e1)
      obtain ⟨u2, r2, hk⟩ := (hc.mono kp).at_ h2 hv
      exact ⟨u2, r2, .inr ⟨.inr (S.capf y (List.mem_of_getElem? e1)), a, h1, hk⟩⟩
    · rw [List.getElem?_append_right (by omega)] at e1
      rw [List.getElem?_append_right (by rw [List.length_map, hlc]; omega), List.length_map, hlc] at e2
      have hi0 : i - L.cap.length = 0 := by
        have := (List.getElem?_eq_some_iff.mp e1).1
        simp at this
        omega
      rw [hi0] at e1 e2
      cases e1
      cases e2
      refine ⟨u, r, .inl ⟨S.par, ?_⟩⟩
      show [(x, u)].lookup x = some u
      rw [List.lookup_cons]
      simp
  · obtain ⟨o, u2, h1, h2, _⟩ := (hc.mono kp).get e
    exact ⟨some u2, o, h1, h2⟩
  · obtain ⟨_, _, _, _, h3, _⟩ := hc.get e
    exact h3
  · show (caps.map some ++ [some v]).length = (L.cap ++ [x]).length
    rw [List.length_append, List.length_append, List.length_map, hc.len, ← hcs, List.length_map]
    rfl
end
end Co

set_option linter.all false
set_option maxRecDepth 100000
set_option Elab.async false
namespace Co
open PySem PySem.Spec PyProof.Rows L2
section
variable {P : Program} {w : World} {K : PySem.W.Frag} {mg : Str → Option Value} {base : Heap} {A : Around} {outer : List PySem.Env} {s : Shared} {H : Hp} {E : XK} {L : LamD} {x : Str} {cs : List (Str × Addr)} {f c : Addr} {caps : List V} {pm ctv : Value} {k : Nat}
/-- the lambda is called: its body runs -/
theorem lam_core {tb : TE} {v : V} {u : Value} {Q : VK} (S : LamSc L x) (hr : Room (k + 1) A) (e0 : Env0 P w K mg base A outer s H) (hcs : cs.map (·.1) = L.cap) (hnd : (cs.map (·.2)).Nodup) (hc : CapsF H (frs outer) s.heap cs caps) (r : RelV v u)
    (hf : s.heap.get? f = some (lamO L cs pm c ctv)) (hcode : H c = some (LamX.CodeO c L.qual))
    (hb : ∀ (fd : FuncData), fd = PySem.W.kla_fn "<lambda>" L.qual L.ps L.body L.sc cs pm (.ref c) ctv → bindArgs fd ⟨[u], []⟩ = pure [(x, u)])
    (hbody : Room k (A.deeper (lcEnv L cs s.heap.objs.size f c)) → PE (lcCx P w K mg base A outer s H E L x cs f c) L.body tb) (ht : tb (caps.map some ++ [some v]) H Q) :
    codeAny (model P w) A (.call (.ref f) ⟨[u], []⟩) (CR (L2.CX P w) outer P w H s Q E) s := by
  obtain ⟨⟨oc, vs, t, hoc, hdc, hvc⟩, _, _⟩ := e0.hok c _ hcode
  have lim : s.heap.NoLimit := e0.mod.nolimit.keeps fun b o e => (e0.bs b o e).1
  refine PySem.W.kla_callFunE hr.depth hf rfl S.co S.gen rfl ⟨c, oc, vs, t, rfl, hoc, hdc, hvc⟩ ?_
  rw [hb _ rfl]
  refine wpAny_pure (wpAny_newFunctionEnv (fun y hy => S.nocell y hy) (fun y hy => ?_) (fun h₁ hns hsb => ⟨lim.fresh _ hsb, ?_⟩) S.kind)
  · rw [List.mem_singleton] at hy
    subst hy
    exact S.par
  · have kp : ∀ b o, s.heap.get? b = some o → h₁.get? b = some o := fun b o e => hsb.extBut b o (Nat.ne_of_lt (Heap.lt_size e)) (Heap.get?_push_of_some _ e)
    have J := lc_start (E := E) (f := f) (c := c) (tk := s.toks + [(x, u)].length) S hr.hd e0 hcs hnd hc r hns kp
    refine PySem.W.kla_codeExpr (wpAny_mono ((hbody (hr.deeper _)).run [] _ _ H Q J ht) (fun v' s' hq => ?_) fun e s' hq => hq)
    obtain ⟨w', H', J', rv, q⟩ := hq
    exact ⟨w', H', J'.os, J'.bare, J'.base, J'.hok, rv, q⟩
end
end Co

set_option linter.all false
set_option maxRecDepth 100000
set_option Elab.async false
/-! Cl3: captured cells taken out of what is known, and put back. -/
namespace Co
open PySem PySem.Spec PyProof.Rows L2
def outs (G : Hp) (as : List Addr) : Hp := fun b => if b ∈ as then none else G b
theorem outs_in {G : Hp} {as : List Addr} {b : Addr} (h : b ∈ as) : outs G as b = none := if_pos h
theorem outs_ne {G : Hp} {as : List Addr} {b : Addr} (h : b ∉ as) : outs G as b = G b := if_neg h
section
variable {T : Nam} {ι ι' : List Addr} {G G' H H' : Hp} {μ μ' : Store} {env : Env} {σ : L2.St} {as : List Addr}
section
variable (hw : ∀ a ∈ as, ∃ o, G a = some (pinG o))
include hw
theorem outs_at {b : Addr} {u : HO} (e : G b = some u) (h : ∀ o, u ≠ pinG o) : outs G as b = some u := by
  rw [outs_ne fun z => by
    obtain ⟨o, e2⟩ := hw b z
    exact h o (Option.some.inj (e.symm.trans e2))]
  exact e
theorem outs_rdl {b : Addr} {vs : List V} (e : Rd G b (.lst vs)) : Rd (outs G as) b (.lst vs) := by
  rcases e with e | ⟨o, e⟩
  · exact .inl (outs_at hw e fun o z => by cases z)
  · exact .inr ⟨o, outs_at hw e fun o z => by cases z⟩
theorem outs_rdt {b : Addr} {vs : List V} (e : Rd G b (.tup vs)) : Rd (outs G as) b (.tup vs) := by
  rcases e with e | ⟨o, e⟩
  · exact .inl (outs_at hw e fun o z => by cases z)
  · exact .inr ⟨o, outs_at hw e fun o z => by cases z⟩
mutual
theorem RepD.outs : ∀ {v : V} {d : D}, RepD T ι G v d → RepD T ι (Co.outs G as) v d
  | _, _, .non => .non
  | _, _, .bl b => .bl b
  | _, _, .int b => .int b
  | _, _, .str b => .str b
  | _, _, .tup e r => .tup (outs_at hw e fun o z => by cases z) r.outs
  | _, _, .wtup e r => .wtup (e.elim (fun z => .inl (outs_rdt hw z)) .inr) r.outs
  | _, _, .lst e r => .lst (outs_rdl hw e) r.outs
  | _, _, .dicK e r => .dicK (outs_at hw e fun o z => by cases z) r.outs
  | _, _, .dicT e r => .dicT (outs_at hw e fun o z => by cases z) r.outs
  | _, _, .ins e r => .ins (outs_at hw e fun o z => by cases z) r.outs
  | _, _, .cell e => .cell e
theorem RepL.outs : ∀ {v : List V} {d : List D}, RepL T ι G v d → RepL T ι (Co.outs G as) v d
  | _, _, .nil => .nil
  | _, _, .cons h r => .cons h.outs r.outs
theorem RepK.outs : ∀ {v : List (Key × V)} {d : List (D × D)}, RepK T ι G v d → RepK T ι (Co.outs G as) v d
  | _, _, .nil => .nil
  | _, _, .cons hk h r => .cons hk h.outs r.outs
theorem RepT.outs : ∀ {v : List (List Key × V)} {d : List (D × D)}, RepT T ι G v d → RepT T ι (Co.outs G as) v d
  | _, _, .nil => .nil
  | _, _, .cons hk h r => .cons hk h.outs r.outs
theorem RepF.outs : ∀ {v : List (Str × V)} {d : List (Nat × D)}, RepF T ι G v d → RepF T ι (Co.outs G as) v d
  | _, _, .nil => .nil
  | _, _, .cons h r => .cons h.outs r.outs
end
end
theorem Fz.outs (f : Fz G H) : Fz (Co.outs G as) (Co.outs H as) := ⟨fun b u e => by
  by_cases q : b ∈ as
  · rw [outs_in q] at e
    cases e
  · rw [outs_ne q] at e ⊢
    exact f.at_ b u e⟩
/-- pinned things (no cells of the store) are known no more: no closure may lean on them -/
theorem RelH.outs (r : RelH T ι G μ H) (hw : ∀ a ∈ as, ∃ o, G a = some (pinG o)) (hn : noClo μ = true) (hi : ∀ a ∈ as, a ∉ ι) : RelH T ι (Co.outs G as) μ (Co.outs H as) := by
  refine ⟨r.fz.outs, r.len, r.nd, fun a ha => ?_, r.tb.keep (fun b o e => ?_) (fun b u e hs => ?_) (fun _ h => .inl h) (fun b ps e z => by
    unfold Co.outs
    split
    · rfl
    · exact z), fun i b c e1 e2 => ?_⟩
  · rw [outs_ne fun z => hi a z ha]
    exact r.trk a ha
  · by_cases q : b ∈ as
    · rw [outs_in q] at e
      cases e
    · rw [outs_ne q] at e
      exact e
  · rw [outs_ne fun z => ?_]
    · exact e
    · obtain ⟨o, e2⟩ := hw b z
      have h3 := r.fz.at_ _ _ e2
      rw [e] at h3
      cases h3
      rcases hs with ⟨_, z⟩ | ⟨_, z⟩ <;> cases z
  · have q : b ∉ as := fun z => hi b z (List.mem_of_getElem? e1)
    have hc : isClo c = false := by
      have := List.all_eq_true.mp hn c (List.mem_of_getElem? e2)
      simpa using this
    cases r.cel i b c e1 e2 with
    | dead => exact .dead
    | lst h1 h2 h3 => exact .lst (by rw [outs_ne q]; exact h1) (by rw [outs_ne q]; exact h2) (h3.outs hw)
    | dicK h1 h2 h3 => exact .dicK (by rw [outs_ne q]; exact h1) (by rw [outs_ne q]; exact h2) (h3.outs hw)
    | dicT h1 h2 h3 => exact .dicT (by rw [outs_ne q]; exact h1) (by rw [outs_ne q]; exact h2) (h3.outs hw)
    | ins h1 h2 h3 => exact .ins (by rw [outs_ne q]; exact h1) (by rw [outs_ne q]; exact h2) (h3.outs hw)
    | ldicK h1 h2 h3 => exact .ldicK (by rw [outs_ne q]; exact h1) (by rw [outs_ne q]; exact h2) (h3.outs hw)
    | ldicT h1 h2 h3 => exact .ldicT (by rw [outs_ne q]; exact h1) (by rw [outs_ne q]; exact h2) (h3.outs hw)
    | clo => cases hc
/-- a closure's cell is dead while its body runs -/
theorem RelH.deads (r : RelH T ι G μ H) (i : Nat) : RelH T ι G (μ.set i .dead) H :=
  ⟨r.fz, by rw [List.length_set]; exact r.len, r.nd, r.trk, r.tb, fun j b c e1 e2 => by
    by_cases hj : i = j
    · subst hj
      by_cases hl : i < μ.length
      · rw [List.getElem?_set_self hl] at e2
        cases e2
        exact .dead
      · rw [List.getElem?_eq_none (by rw [List.length_set]; omega)] at e2
        cases e2
    · rw [List.getElem?_set_ne hj] at e2
      exact r.cel j b c e1 e2⟩
/-- what was taken out is put back -/
def puts (G0 : Hp) (as : List Addr) (G : Hp) : Hp := fun b => if b ∈ as then G0 b else G b
theorem puts_in {G0 : Hp} {b : Addr} (h : b ∈ as) : puts G0 as G b = G0 b := if_pos h
theorem puts_ne {G0 : Hp} {b : Addr} (h : b ∉ as) : puts G0 as G b = G b := if_neg h
theorem puts_ex {G0 : Hp} (hn : ∀ a ∈ as, G a = none) : Evl.Ex G (puts G0 as G) := fun b u e => by
  rw [puts_ne fun z => by
    rw [hn b z] at e
    cases e]
  exact e
theorem RelH.puts {G0 H0 : Hp} {i : Nat} {a : Addr} {c : Cell} (r : RelH T ι G μ H) (f0 : Fz G0 H0) (hw : ∀ a ∈ as, ∃ o v, G0 a = some (pinG o) ∧ o.data = .cell v) (hn : ∀ a ∈ as, H a = none) (hi : ι[i]? = some a) (hc : CellAt T ι (Co.puts G0 as G) (Co.puts H0 as H) a c) :
    RelH T ι (Co.puts G0 as G) (μ.set i c) (Co.puts H0 as H) := by
  have hg : ∀ b ∈ as, G b = none := fun b hb => r.fz.free (hn b hb)
  have hι : ∀ b ∈ as, b ∉ ι := fun b hb z => r.trk b z (hn b hb)
  refine ⟨⟨fun b u e => ?_⟩, by rw [List.length_set]; exact r.len, r.nd, fun b hb => ?_, ⟨?_, fun b L cs pm k ctv e => ?_, fun b o v e d hb => ?_, fun z hz => ?_⟩, fun j b d e1 e2 => ?_⟩
  · by_cases q : b ∈ as
    · rw [puts_in q] at e ⊢
      exact f0.at_ b u e
    · rw [puts_ne q] at e ⊢
      exact r.fz.at_ b u e
  · rw [puts_ne fun z => hι b z hb]
    exact r.trk b hb
  · exact (r.tb.keep (ι' := ι) (G' := G) (H' := Co.puts H0 as H) (fun _ _ e => e) (fun b u e _ => puts_ex hn b u e) (fun _ h => .inl h) fun _ _ _ e => e).tab
  · by_cases q : b ∈ as
    · rw [puts_in q] at e
      obtain ⟨o, v, e2, d⟩ := hw b q
      rw [e2] at e
      unfold pinG at e
      cases e
      cases d
    · rw [puts_ne q] at e
      exact puts_ex hn _ _ (r.tb.code b L cs pm k ctv e)
  · by_cases q : b ∈ as
    · exact hι b q hb
    · rw [puts_ne q] at e
      exact r.tb.off b o v e d hb
  · obtain ⟨ps, h1, _⟩ := r.tb.tab z hz
    rw [puts_ne fun y => by
      rw [hn _ y] at h1
      cases h1]
    exact r.tb.gtb z hz
  · by_cases hj : i = j
    · subst hj
      have hl : i < μ.length := by rw [← r.len]; exact (List.getElem?_eq_some_iff.mp hi).1
      rw [List.getElem?_set_self hl] at e2
      cases e2
      rw [hi] at e1
      cases e1
      exact hc
    · rw [List.getElem?_set_ne hj] at e2
      have q : b ∉ as := fun z => hι b z (List.mem_of_getElem? e1)
      refine (r.cel j b d e1 e2).grow ⟨fun _ _ e => e, puts_ex hg⟩ ?_ fun u e => puts_ex hn _ _ e
      cases hd : d.free
      · exact .inr rfl
      · exact .inl (by rw [puts_ne q]; exact (r.cel j b d e1 e2).free hd)
end
/-! ### behind a call -/
/-- what was known beside is known again behind the call -/
theorem CE_puts {outer : List PySem.Env} {P : Program} {w : World} {H : Hp} {s s' : Shared} {Q Q' : VK} {u : Value} {as : List Addr} (hok : HOk P w H s.heap) (hw : ∀ a ∈ as, ∃ o, H a = some (.frz o oX) ∧ a ∉ frs outer)
    (h : L2.CE outer P w (outs H as) s Q' u s') (hq : ∀ v H', (∀ a ∈ as, H' a = none) → Q' v H' → Q v (puts H as H')) : L2.CE outer P w H s Q u s' := by
  obtain ⟨v, H', os, bare, un, hok', r, q⟩ := h
  have at_ : ∀ a ∈ as, ∃ o, H a = some (.frz o oX) ∧ s.heap.get? a = some o ∧ s'.heap.get? a = some o := fun a ha => by
    obtain ⟨o, e, nf⟩ := hw a ha
    obtain ⟨e2, _⟩ := hok a _ e
    exact ⟨o, e, e2, un.keep a o e2 (outs_in ha) nf (by simp)⟩
  have hn : ∀ a ∈ as, H' a = none := fun a ha => by
    obtain ⟨o, e, e2, e3⟩ := at_ a ha
    exact un.free a o e2 (outs_in ha) (by simp)
  have no : ∀ b, H b = none → b ∉ as := fun b e z => by
    obtain ⟨o, e2, _⟩ := at_ b z
    rw [e] at e2
    cases e2
  refine ⟨v, puts H as H', os, bare, ⟨fun b o e n => un.keep b o e (by rw [outs_ne (no b n)]; exact n), fun b o e n => un.slot b o e (by rw [outs_ne (no b n)]; exact n), fun b o e n hx => ?_, un.there, fun b xs e => ?_, fun b o x e => ?_, fun b ps e => ?_⟩, fun b x e => ?_, r, hq v H' hn q⟩
  · rw [puts_ne (no b n)]
    exact un.free b o e (by rw [outs_ne (no b n)]; exact n) hx
  · have nb : b ∉ as := fun z => by
      obtain ⟨o, e2, _⟩ := at_ b z
      rw [e] at e2
      cases e2
    rw [puts_ne nb]
    exact un.tups b xs (by rw [outs_ne nb]; exact e)
  · by_cases q2 : b ∈ as
    · rw [puts_in q2]
      exact e
    · rw [puts_ne q2]
      exact un.frzs b o x (by rw [outs_ne q2]; exact e)
  · have nb : b ∉ as := fun z => by
      obtain ⟨o, e2, _⟩ := at_ b z
      rw [e] at e2
      cases e2
    obtain ⟨more, e2⟩ := un.tbls b ps (by rw [outs_ne nb]; exact e)
    exact ⟨more, by rw [puts_ne nb]; exact e2⟩
  · by_cases q2 : b ∈ as
    · rw [puts_in q2] at e
      obtain ⟨o, e2, e3, e4⟩ := at_ b q2
      rw [e2] at e
      cases e
      exact ⟨e4, trivial, ⟨o, e4⟩, fun _ _ _ _ => trivial⟩
    · rw [puts_ne q2] at e
      exact (hok' b x e).stay (fun _ _ _ e => e) (fun c e => puts_ex hn _ _ e) fun c xs e => puts_ex hn _ _ e
end Co

set_option linter.all false
set_option maxRecDepth 100000
set_option Elab.async false
/-! Cl4: a closure called by the name of a variable. -/
namespace Co
open PySem PySem.Spec PyProof.Rows L2
theorem env0_outs {P : Program} {w : World} {K : PySem.W.Frag} {mg : Str → Option Value} {base : Heap} {A : Around} {outer : List PySem.Env} {s : Shared} {H : Hp} (e : Env0 P w K mg base A outer s H) (as : List Addr) (hw : ∀ a ∈ as, ∃ o, H a = some (.frz o oX)) : Env0 P w K mg base A outer s (outs H as) := by
  have nn : ∀ b, H b = none → outs H as b = none := fun b h => by
    unfold Co.outs
    split
    · rfl
    · exact h
  have nx : ∀ b u, H b = some u → (∀ o, u ≠ .frz o oX) → outs H as b = some u := fun b u h hu => by
    rw [outs_ne fun z => by
      obtain ⟨o, e2⟩ := hw b z
      exact hu o (Option.some.inj (h.symm.trans e2))]
    exact h
  refine ⟨e.frames, e.mod, fun b o h => ⟨(e.bs b o h).1, nn b (e.bs b o h).2⟩, e.bsz, e.funs, fun b hb => nn b (e.frf b hb), fun b u h => ?_, e.bare⟩
  by_cases q : b ∈ as
  · rw [outs_in q] at h
    cases h
  · rw [outs_ne q] at h
    exact (e.hok b u h).stay (fun _ _ _ e => e) (fun c h => nx _ _ h fun o z => by cases z) fun c xs h => nx _ _ h fun o z => by cases z
/-- the captured cells of a closure, out of what is known -/
theorem caps_out {P : Program} {w : World} {G H : Hp} {fr as : List Addr} {h : Heap} (fz : Fz G H) (hok : HOk P w H h) (hfr : ∀ b ∈ fr, H b = none) : ∀ {cs : List (Str × Addr)} {vs : List V}, Caps G cs vs → (∀ p ∈ cs, p.2 ∈ as) → CapsF (outs H as) fr h cs vs
  | _, _, .nil, _ => .nil
  | _, _, .cons (c := c) e d r t, hs => by
    have eH := fz.at_ _ _ e
    have ho : h.get? c = some _ := (hok c _ eH).1
    exact .cons ho d r (outs_in (hs _ List.mem_cons_self)) (fun z => by
      rw [hfr c z] at eH
      cases eH) (caps_out fz hok hfr t fun p hp => hs p (List.mem_cons_of_mem _ hp))
theorem Caps.pins {G : Hp} {cs : List (Str × Addr)} {vs : List V} (c : Caps G cs vs) : ∀ a ∈ cs.map (·.2), ∃ o v, G a = some (pinG o) ∧ o.data = .cell v := by
  induction c with
  | nil => intro a ha; cases ha
  | cons e d r _ ih =>
    intro a ha
    rcases List.mem_cons.mp ha with z | z
    · rw [z]
      exact ⟨_, _, e, d⟩
    · exact ih a z
theorem caps_puts {G G' : Hp} {cs : List (Str × Addr)} {vs : List V} {as : List Addr} (c : Caps G cs vs) (h : ∀ p ∈ cs, p.2 ∈ as) : Caps (Co.puts G as G') cs vs := by
  induction c with
  | nil => exact .nil
  | cons e d r _ ih => exact .cons (by rw [puts_in (h _ List.mem_cons_self)]; exact e) d r (ih fun p hp => h p (List.mem_cons_of_mem _ hp))
section
variable {q : Cq} {X : Cx}
/-- the call itself -/
theorem clo_call {pins : List (Addr × Obj)} {σ : L2.St} {s : Shared} {ι : List Addr} {G H : Hp} {μ : Store} {j lf : Nat} {f : Addr} {ds : List D} {d : D} {v : V} {u : Value} {Q : VK} (I : Inv X pins σ H s) (hK : X.K = q.T.K) (hr : Room q.k X.A)
    (hl : ∀ L, q.T.lam lf = some L → (∃ ds μ, q.call lf ds μ ≠ .bad) → LamP X.prog X.w q.T X.mg X.base q.k q.call lf L) (R : RelH q.T ι G μ H) (hj : ι[j]? = some f) (hm : μ[j]? = some (.clo lf ds)) (rv : RelV v u) (rd : RepD q.T ι G v d)
    {W : WX} (hc : Ct q.T W σ ι G (cloS q.call j [d] μ) Q) : wpAny (model X.prog X.w) X.A (call (.ref f) [u]) (EP X pins σ Q) X.xe s := by
  unfold cloS at hc
  rw [hm] at hc
  simp only at hc
  split at hc
  · rename_i hn
    cases R.cel j f _ hj hm with
    | @clo _ L cs pm c ctv vs _ h0 h1 h2 k1 k2 h3 h4 =>
      have hp := h3.pins
      have as : List Addr := cs.map (·.2)
      have hwp : ∀ a ∈ cs.map (·.2), ∃ o, G a = some (pinG o) := fun a ha => by
        obtain ⟨o, _, e, _⟩ := hp a ha
        exact ⟨o, e⟩
      have hwH : ∀ a ∈ cs.map (·.2), ∃ o, H a = some (.frz o oX) := fun a ha => by
        obtain ⟨o, e⟩ := hwp a ha
        exact ⟨o, R.fz.at_ _ _ e⟩
      have hι : ∀ a ∈ cs.map (·.2), a ∉ ι := fun a ha => by
        obtain ⟨o, v, e, dd⟩ := hp a ha
        exact R.tb.off a o v e dd
      have R2 : RelH q.T ι (outs G (cs.map (·.2))) (μ.set j .dead) (outs H (cs.map (·.2))) := (R.deads j).outs hwp hn hι
      have fnz : f ∉ cs.map (·.2) := fun z => hι f z (List.mem_of_getElem? hj)
      have hcode := R.tb.code _ _ _ _ _ _ h1
      have hcode2 : outs H (cs.map (·.2)) c = some (LamX.CodeO c L.qual) := by
        rw [outs_ne fun z => by
          obtain ⟨o, e⟩ := hwH c z
          rw [hcode] at e
          cases e]
        exact hcode
      have hf : s.heap.get? f = some (lamO L cs pm c ctv) := (I.hok f _ h2).1
      have hcf := caps_out (as := cs.map (·.2)) (fr := frs X.stack) R.fz I.hok I.env0.frf h3 fun p hp => List.mem_map.mpr ⟨p, hp, rfl⟩
      have nb : q.call lf (ds ++ [d]) (μ.set j .dead) ≠ .bad := fun z => by
        rw [z] at hc
        exact hc
      have lp := hl L h0 ⟨_, _, nb⟩
      have e0 := env0_outs I.env0 _ hwH
      rw [hK] at e0
      refine wpAny_call (codeAny_mono (lp.run X.A X.stack s _ cs f c pm ctv vs v u (fun w H' => (∀ a ∈ cs.map (·.2), H' a = none) → Q w (puts H (cs.map (·.2)) H')) hr e0 k1 k2 hcf rv hf hcode2 ⟨ι, _, _, ds, d, R2, h4.outs hwp, rd.outs hwp, ?_⟩) fun r s' hq => ?_)
      · cases er : q.call lf (ds ++ [d]) (μ.set j .dead) with
        | bad => exact absurd er nb
        | ex y μ2 => rw [er] at hc; exact hc.elim
        | ok e μ2 =>
          rw [er] at hc
          intro w ι' G' H' g r' rw' hn'
          have hj' := g.ix _ _ hj
          have gE : Grow ι ι' G (puts G (cs.map (·.2)) G') := ⟨g.ix, fun b x hx => by
            by_cases z : b ∈ cs.map (·.2)
            · rw [puts_in z]; exact hx
            · rw [puts_ne z]; exact g.ex b x (by rw [outs_ne z]; exact hx)⟩
          have gP : Grow ι' ι' G' (puts G (cs.map (·.2)) G') := ⟨fun _ _ e => e, puts_ex fun a ha => r'.fz.free (hn' a ha)⟩
          refine hc w ι' (puts G (cs.map (·.2)) G') (puts H (cs.map (·.2)) H') gE (r'.puts R.fz hp hn' hj' ?_) (rw'.mono gP)
          have hg1 := gE.ex _ _ h1
          have hH1 : puts H (cs.map (·.2)) H' f = some (.frz (lamO L cs pm c ctv) oX) := by
            rw [puts_ne fnz]
            exact r'.fz.at_ _ _ (g.ex _ _ (by rw [outs_ne fnz]; exact h1))
          exact .clo h0 hg1 hH1 k1 k2 (caps_puts h3 fun p hp => List.mem_map.mpr ⟨p, hp, rfl⟩) (h4.mono gE)
      · cases r with
        | error e =>
          obtain ⟨_, _, _, _, _, _, _, _, _, _, _, _, z⟩ := hq
          exact z.elim
        | ok fl =>
          cases fl with
          | ret u2 =>
            have hq' : L2.CE X.stack X.prog X.w (outs H (cs.map (·.2))) s (fun w H' => (∀ a ∈ cs.map (·.2), H' a = none) → Q w (puts H (cs.map (·.2)) H')) u2 s' := hq
            refine I.after (CE_puts (as := cs.map (·.2)) I.hok (fun a ha => ?_) hq' fun v' H' hn' q' => q' hn')
            obtain ⟨o, e⟩ := hwH a ha
            exact ⟨o, e, fun z => by
              rw [I.env0.frf a z] at e
              cases e⟩
          | next => exact False.elim hq
          | brk => exact False.elim hq
          | cont => exact False.elim hq
  · exact hc.elim
end
end Co
namespace Co
open PySem PySem.Spec PyProof.Rows L2
section
variable {q : Cq} {sc : Scope} {N : List Str} {W : WX} {X : Cx}
theorem fnAt_of {pins : List (Addr × Obj)} {σ : L2.St} {s : Shared} {ι : List Addr} {G H : Hp} {μ : Store} {j : Nat} {f : Addr} (I : Inv X pins σ H s) (R : RelH q.T ι G μ H) (hj : ι[j]? = some f) (hm : cloAt μ j = true) : PySem.W.FnAt f s.heap := by
  unfold cloAt at hm
  split at hm
  · rename_i lf ds e
    cases R.cel j f _ hj e with
    | clo h0 h1 h2 => exact ⟨_, _, _, _, (I.hok f _ h2).1⟩
  · cases hm
/-- a closure called by its name -/
theorem se_clc {i : Nat} {a : CE} {y : Str} {p pos : Pos} {e : Expr} (x : XOk q sc N W X) (hN : N[i]? = some y) (hv : visB sc y = true) (hd : dbgB y = false)
    (ha : PE X e (tE q W a)) (hp : plE e = true) : PE X (.Call (.Name y p) [e] [] pos) (tE q W (.clc i a)) := by
  refine ⟨fun pins s σ H Q I ⟨env, μ, ι, G, R, S, k⟩ => ?_⟩
  have k' : Ct q.T W σ ι G (match getV env i with
    | some (.cell j) => if cloAt μ j then (evE q.P q.call a env μ).bind fun d μ => cloS q.call j [d] μ else .bad
    | _ => .bad) Q := k
  cases hg : getV env i with
  | none => rw [hg] at k'; exact k'.elim
  | some dv =>
    rw [hg] at k'
    cases dv with
    | cell j =>
      simp only at k'
      split at k'
      · rename_i hca
        obtain ⟨v, hσ, rv⟩ := S.at_ i _ (getV_some hg)
        cases rv with
        | @cell f _ hj =>
          unfold dbgB at hd
          simp only [Bool.or_eq_false_iff] at hd
          refine wpAny_Call_Name_kw (thn ((pe_var (pos := p) (i := i) (by rw [x.eN]; exact hN) (x.vis hv) hd.1.1 hd.1.2).run pins s σ H (fun v H1 => v = .ref f ∧ H1 = H) I ⟨_, hσ, rfl, rfl⟩) fun u s1 ⟨v, H1, I1, r1, q1⟩ => ?_)
          obtain ⟨ev, eH⟩ := q1
          subst ev
          rw [eH] at I1
          obtain rfl : u = Value.ref f := r1
          have pa : PA X [e] (tCons (tE q W a) tNil) := pa_cons ha pa_nil (pl_star hp [] _)
          refine PySem.W.callWith_F (fnAt_of I1 R hj hca) (thn (pa.run pos pins s1 σ H (fun vs H2 => ∃ w d μ2 ι2 G2, vs = [w] ∧ Grow ι ι2 G G2 ∧ RelH q.T ι2 G2 μ2 H2 ∧ RepD q.T ι2 G2 w d ∧ Ct q.T W σ ι2 G2 (cloS q.call j [d] μ2) Q) I1 ⟨env, μ, ι, G, R, S, ?_⟩) fun us s2 ⟨vs, H2, I2, r2, w, d, μ2, ι2, G2, ev, g2, R2, rd, k2⟩ => ?_) (pl_star hp [] _) (pl_any (es := []) rfl)
          · refine GCt.bind k' fun d μ2 w ι2 G2 H2 _ g2 R2 rd k2 => ⟨w, d, μ2, ι2, G2, rfl, g2, R2, rd, k2⟩
          · subst ev
            cases r2 with
            | cons ru rn =>
              cases rn
              have hj2 := g2.ix _ _ hj
              have k3 := k2
              unfold cloS at k3
              cases hm : μ2[j]? with
              | none => rw [hm] at k3; exact k3.elim
              | some c =>
                rw [hm] at k3
                cases c with
                | clo lf ds => exact ⟨fnAt_of I2 R2 hj2 (by unfold cloAt; rw [hm]), clo_call I2 x.eK (x.room.mono (by omega)) (fun L hL hb => x.lams lf L hL hb) R2 hj2 hm ru rd k2⟩
                | _ => exact k3.elim
      · exact k'.elim
    | _ => exact k'.elim
end
end Co

set_option linter.all false
set_option maxRecDepth 100000
set_option Elab.async false
/-! Cl5: a closure made for one call. -/
namespace Co
open PySem PySem.Spec PyProof.Rows L2
section
variable {X : Cx} {pins : List (Addr × Obj)} {σ : L2.St} {H : Hp} {s : Shared}
/-- a lambda is made; told is that its object is new -/
theorem lam_new {T : List (Addr × Str)} {k p : Addr} {ps : Arguments} {bd : Expr} {sc : Scope} {at_ : Pos} {E : Value → Shared → Prop} {Q : Value → Shared → Prop} (J : Inv X pins σ H s) (tb : LamX.TabB X.base X.mg k p) (hk : X.env.code = .ref k)
    (hm : (p, X.env.qual ++ "<lambda>") ∈ T) (hu : ∀ z ∈ T, z.1 = p → z.2 = X.env.qual ++ "<lambda>") (hT : LamX.Tabs T H) (hdef : defaultsOf ps X.env = ([], [])) (hfree : ∀ y ∈ sc.names, y.2 = .free → ∃ c, X.env.cells.lookup y.1 = some c)
    (q : ∀ (f c' : Addr) (pm ctv : Value) (H1 : Hp) (s' : Shared), Inv X pins σ H1 s' → (∀ b o, b ≠ p → H b = some o → H1 b = some o) → LamX.Tabs T H1 → s'.heap.get? f = some (PySem.W.kla_obj "<lambda>" (X.env.qual ++ "<lambda>") ps bd sc (cloFrom X.env.cells sc.names []) pm c' ctv) →
      H1 f = none → f ∉ frs X.stack → s.heap.get? f = none → H1 c' = some (LamX.CodeO c' (X.env.qual ++ "<lambda>")) → Q (.ref f) s') :
    wpAny (model X.prog X.w) X.A (eval (.Lambda ps bd sc at_) X.env) Q E s := by
  obtain ⟨ts, tP, t3, ta⟩ := hT _ hm
  refine PySem.W.kla_eval hdef ?_
  have gP : s.heap.get? p = some { cls := .none, data := .fields ts } := J.hok p _ tP
  have offF : ∀ f, s.heap.objs.size ≤ f → f ∉ frs X.stack := fun f hf z => (List.mem_cons.mp (J.stkSub _ z)).elim (fun e => by
    have := J.lt
    rw [← e] at this
    exact Nat.lt_irrefl _ (Nat.lt_of_lt_of_le this hf)) fun e => J.nofs hf e
  have newF : ∀ f, s.heap.objs.size ≤ f → s.heap.get? f = none := fun f hf => by
    cases e : s.heap.get? f with
    | none => rfl
    | some o =>
      exact absurd (Nat.lt_of_lt_of_le (Heap.lt_size e) hf) (Nat.lt_irrefl _)
  cases hc : codeAmong at_ ts.toList with
  | some cv =>
    obtain ⟨c', rfl, hco⟩ := ta at_ cv hc
    refine PySem.W.kla_makeFunctionHit (mg := X.mg) (c := k) (P := p) (ps := ts) (closure_ok hfree) J.ok.glob (J.mod.glob.keeps J.bk) hk (tb.code.keeps J.bk) gP t3 hc (tb.bm.keeps J.bk) fun ctv h' tk hx hsz => ?_
    exact q h'.objs.size c' ((X.mg "__name__").getD .none) ctv H _ (J.kept fun b o e => Heap.get?_push_of_some _ (hx b o e)) (fun _ _ _ e => e) hT (Heap.get?_push_size _ rfl) (J.hok.fresh hsz) (offF _ hsz) (newF _ hsz) hco
  | none =>
    refine PySem.W.kla_makeFunction (mg := X.mg) (c := k) (P := p) (ps := ts) (closure_ok hfree) J.ok.glob (J.mod.glob.keeps J.bk) hk (tb.code.keeps J.bk) gP t3 hc tb.gP (tb.bm.keeps J.bk) fun c' ctv h' tk hx hge hlt hrec htb => ?_
    obtain ⟨c2, oc, vs, t, e2, hoc, hd, hv⟩ := hrec
    cases e2
    have hsz : s.heap.objs.size ≤ h'.objs.size := Nat.le_trans hge (Nat.le_of_lt hlt)
    have nC : H c' = none := J.hok.fresh hge
    have J1 := LamX.inv_table (t' := tk) (more := #[rawInt at_.line, rawInt at_.col, .ref c']) (h' := h'.push (PySem.W.kla_obj "<lambda>" (X.env.qual ++ "<lambda>") ps bd sc (cloFrom X.env.cells sc.names []) ((X.mg "__name__").getD .none) c' ctv)) J tP
      (fun b o hb e => Heap.get?_push_of_some _ (hx b o hb e)) (Heap.get?_push_of_some _ htb) hge ⟨oc, vs, t, Heap.get?_push_of_some _ hoc, hd, hv⟩
    have ext : LamX.ExtN H (upd (upd H p (.tbl (ts ++ #[rawInt at_.line, rawInt at_.col, .ref c']))) c' (LamX.CodeO c' (X.env.qual ++ "<lambda>"))) := fun b o e n => by
      rw [upd_ne (ne_of_none e nC), upd_ne fun z => by
        rw [z, tP] at e
        exact n ts (Option.some.inj e).symm]
      exact e
    have tl : (ts ++ #[rawInt at_.line, rawInt at_.col, .ref c']).toList = ts.toList ++ [rawInt at_.line, rawInt at_.col, .ref c'] := by simp
    refine q h'.objs.size c' ((X.mg "__name__").getD .none) ctv _ _ J1 (fun b o hb e => by rw [upd_ne (ne_of_none e nC), upd_ne hb]; exact e) (fun z hz => ?_) (Heap.get?_push_size _ rfl) ?_ (offF _ hsz) (newF _ hsz) upd_same
    · by_cases hb : z.1 = p
      · rw [hu z hz hb, hb]
        refine ⟨_, by rw [upd_ne (ne_of_none tP nC), upd_same], by rw [tl]; exact PySem.TriplesOk_snoc _ _ _ _ t3, fun p' cv hcv => ?_⟩
        rw [tl] at hcv
        rcases LamX.among_app _ t3 hcv with w | w
        · obtain ⟨c0, e1, e2⟩ := ta p' cv w
          exact ⟨c0, e1, ext _ _ e2 LamX.codeO_ne⟩
        · exact ⟨c', w, upd_same⟩
      · obtain ⟨ts', a1, a2, a3⟩ := hT z hz
        refine ⟨ts', by rw [upd_ne (ne_of_none a1 nC), upd_ne hb]; exact a1, a2, fun p' cv hcv => ?_⟩
        obtain ⟨c0, e1, e2⟩ := a3 p' cv hcv
        exact ⟨c0, e1, ext _ _ e2 LamX.codeO_ne⟩
    · have n1 : h'.objs.size ≠ c' := Nat.ne_of_gt hlt
      have n2 : h'.objs.size ≠ p := Nat.ne_of_gt (Nat.lt_of_lt_of_le (Heap.lt_size gP) hsz)
      rw [upd_ne n1, upd_ne n2]
      exact J.hok.fresh hsz
end
/-! ### pinned for a call -/
/-- the objects at as are known as they stand in h -/
def pinH (H : Hp) (as : List Addr) (h : Heap) : Hp := fun b => if b ∈ as then (h.get? b).map fun o => .frz o oX else H b
def pinGG (G : Hp) (as : List Addr) (h : Heap) : Hp := fun b => if b ∈ as then (h.get? b).map pinG else G b
theorem pinH_ne {H : Hp} {as : List Addr} {h : Heap} {b : Addr} (q : b ∉ as) : pinH H as h b = H b := if_neg q
theorem pinH_in {H : Hp} {as : List Addr} {h : Heap} {b : Addr} {o : Obj} (q : b ∈ as) (e : h.get? b = some o) : pinH H as h b = some (.frz o oX) := by
  unfold pinH
  rw [if_pos q, e]
  rfl
theorem pinG_ne {H : Hp} {as : List Addr} {h : Heap} {b : Addr} (q : b ∉ as) : pinGG H as h b = H b := if_neg q
theorem pinG_in {H : Hp} {as : List Addr} {h : Heap} {b : Addr} {o : Obj} (q : b ∈ as) (e : h.get? b = some o) : pinGG H as h b = some (pinG o) := by
  unfold pinGG
  rw [if_pos q, e]
  rfl
theorem env0_pin {P : Program} {w : World} {K : PySem.W.Frag} {mg : Str → Option Value} {base : Heap} {A : Around} {outer : List PySem.Env} {s : Shared} {H : Hp} {as : List Addr} (e : Env0 P w K mg base A outer s H) (hw : ∀ a ∈ as, (∃ o, s.heap.get? a = some o) ∧ H a = none ∧ a ∉ frs outer ∧ base.get? a = none) :
    Env0 P w K mg base A outer s (pinH H as s.heap) := by
  have nx : ∀ b u, H b = some u → pinH H as s.heap b = some u := fun b u h => by
    rw [pinH_ne fun z => by
      rw [(hw b z).2.1] at h
      cases h]
    exact h
  refine ⟨e.frames, e.mod, fun b o h => ⟨(e.bs b o h).1, ?_⟩, e.bsz, e.funs, fun b hb => ?_, fun b u h => ?_, e.bare⟩
  · rw [pinH_ne fun z => by
      rw [(hw b z).2.2.2] at h
      cases h]
    exact (e.bs b o h).2
  · rw [pinH_ne fun z => (hw b z).2.2.1 hb]
    exact e.frf b hb
  · by_cases q : b ∈ as
    · obtain ⟨o, ho⟩ := (hw b q).1
      rw [pinH_in q ho] at h
      cases h
      exact ⟨ho, trivial, ⟨o, ho⟩, fun _ _ _ _ => trivial⟩
    · rw [pinH_ne q] at h
      exact (e.hok b u h).stay (fun _ _ _ e => e) (fun c h => nx _ _ h) fun c xs h => nx _ _ h
/-- .. and behind the call they are known no more -/
theorem CE_unpin {outer : List PySem.Env} {P : Program} {w : World} {H : Hp} {s s' : Shared} {Q Q' : VK} {u : Value} {as : List Addr} (hw : ∀ a ∈ as, (∃ o, s.heap.get? a = some o) ∧ H a = none) (h : L2.CE outer P w (pinH H as s.heap) s Q' u s')
    (hq : ∀ v H', Q' v H' → Q v (outs H' as)) : L2.CE outer P w H s Q u s' := by
  obtain ⟨v, H', os, bare, un, hok', r, q⟩ := h
  have at_ : ∀ a ∈ as, ∃ o, s.heap.get? a = some o ∧ s'.heap.get? a = some o ∧ H' a = some (.frz o oX) := fun a ha => by
    obtain ⟨o, e⟩ := (hw a ha).1
    have e2 := un.frzs a o oX (pinH_in ha e)
    exact ⟨o, e, (hok' a _ e2).1, e2⟩
  have no : ∀ b u, H b = some u → b ∉ as := fun b u e z => by
    rw [(hw b z).2] at e
    cases e
  have nx : ∀ b u, H' b = some u → (∀ o, u ≠ .frz o oX) → outs H' as b = some u := fun b u e hu => by
    rw [outs_ne fun z => by
      obtain ⟨o, _, _, e2⟩ := at_ b z
      exact hu o (Option.some.inj (e.symm.trans e2))]
    exact e
  refine ⟨v, outs H' as, os, bare, ⟨fun b o e n hb hx => ?_, fun b o e n hb hx => ?_, fun b o e n hx => ?_, un.there, fun b xs e => ?_, fun b o x e => ?_, fun b ps e => ?_⟩, fun b x e => ?_, r, hq v H' q⟩
  · by_cases z : b ∈ as
    · obtain ⟨o2, e1, e2, _⟩ := at_ b z
      rw [e] at e1
      cases e1
      exact e2
    · exact un.keep b o e (by rw [pinH_ne z]; exact n) hb hx
  · by_cases z : b ∈ as
    · obtain ⟨o2, e1, e2, _⟩ := at_ b z
      rw [e] at e1
      cases e1
      exact ⟨o.slots, e2⟩
    · exact un.slot b o e (by rw [pinH_ne z]; exact n) hb hx
  · by_cases z : b ∈ as
    · exact outs_in z
    · rw [outs_ne z]
      exact un.free b o e (by rw [pinH_ne z]; exact n) hx
  · have z := no b _ e
    rw [outs_ne z]
    exact un.tups b xs (by rw [pinH_ne z]; exact e)
  · have z := no b _ e
    rw [outs_ne z]
    exact un.frzs b o x (by rw [pinH_ne z]; exact e)
  · have z := no b _ e
    obtain ⟨more, e2⟩ := un.tbls b ps (by rw [pinH_ne z]; exact e)
    exact ⟨more, by rw [outs_ne z]; exact e2⟩
  · by_cases z : b ∈ as
    · rw [outs_in z] at e
      cases e
    · rw [outs_ne z] at e
      exact (hok' b x e).stay (fun _ _ _ e => e) (fun c e => nx _ _ e fun o y => by cases y) fun c xs e => nx _ _ e fun o y => by cases y
end Co

set_option linter.all false
set_option maxRecDepth 100000
set_option Elab.async false
/-! Cl6: what is told of the store while a closure is about. -/
namespace Co
open PySem PySem.Spec PyProof.Rows L2
section
variable {T : Nam} {ι ι' : List Addr} {G G' H H' H1 : Hp} {μ μ' : Store}
/-- a table is written -/
theorem RelH.tabs (r : RelH T ι G μ H) {p : Addr} {qn : Str} (hp : (p, qn) ∈ T.tb) (hH : ∀ b o, b ≠ p → H b = some o → H1 b = some o) (hT : LamX.Tabs T.tb H1) : RelH T ι G μ H1 := by
  obtain ⟨ps, tP, _⟩ := r.tb.tab _ hp
  obtain ⟨ps1, tP1, _⟩ := hT _ hp
  have tP : H p = some (.tbl ps) := tP
  have gP : G p = none := r.tb.gtb _ hp
  have np : ∀ b u, H b = some u → (∀ ps, u ≠ .tbl ps) → b ≠ p := fun b u e n z => by
    rw [z, tP] at e
    cases e
    exact n _ rfl
  refine ⟨⟨fun b u e => hH b _ (fun z => by rw [z, gP] at e; cases e) (r.fz.at_ b u e)⟩, r.len, r.nd, fun b hb => ?_, ⟨hT, fun a L cs pm c ctv e => ?_, r.tb.off, r.tb.gtb⟩, fun i b c e1 e2 => ?_⟩
  · by_cases z : b = p
    · rw [z]
      exact fun y => by
        have y : H1 p = none := y
        have t : H1 p = some (.tbl ps1) := tP1
        rw [y] at t
        cases t
    · cases e : H b with
      | none => exact absurd e (r.trk b hb)
      | some u => rw [hH b u z e]; simp
  · have e2 := r.tb.code a L cs pm c ctv e
    exact hH _ _ (np _ _ e2 fun ps z => by
      unfold LamX.CodeO at z
      cases z) e2
  · cases r.cel i b c e1 e2 with
    | dead => exact .dead
    | lst h1 h2 h3 => exact .lst h1 (hH _ _ (np _ _ h2 fun ps z => by cases z) h2) h3
    | dicK h1 h2 h3 => exact .dicK h1 (hH _ _ (np _ _ h2 fun ps z => by cases z) h2) h3
    | dicT h1 h2 h3 => exact .dicT h1 (hH _ _ (np _ _ h2 fun ps z => by cases z) h2) h3
    | ins h1 h2 h3 => exact .ins h1 (hH _ _ (np _ _ h2 fun ps z => by cases z) h2) h3
    | ldicK h1 h2 h3 => exact .ldicK h1 (hH _ _ (np _ _ h2 fun ps z => by cases z) h2) h3
    | ldicT h1 h2 h3 => exact .ldicT h1 (hH _ _ (np _ _ h2 fun ps z => by cases z) h2) h3
    | clo h0 h1 h2 k1 k2 h3 h4 => exact .clo h0 h1 (hH _ _ (np _ _ h2 fun ps z => by cases z) h2) k1 k2 h3 h4
theorem grow_pin {as : List Addr} {h : Heap} (hn : ∀ a ∈ as, G a = none) : Grow ι ι G (pinGG G as h) := ⟨fun _ _ e => e, fun b u e => by
  rw [pinG_ne fun z => by
    rw [hn b z] at e
    cases e]
  exact e⟩
/-- .. things are pinned -/
theorem RelH.pin (r : RelH T ι G μ H) {as : List Addr} {h : Heap} (hw : ∀ a ∈ as, (∃ o, h.get? a = some o) ∧ H a = none) (hcode : ∀ a ∈ as, ∀ L cs pm c ctv, h.get? a = some (lamO L cs pm c ctv) → H c = some (LamX.CodeO c L.qual)) :
    RelH T ι (pinGG G as h) μ (pinH H as h) := by
  have nx : ∀ b u, H b = some u → pinH H as h b = some u := fun b u e => by
    rw [pinH_ne fun z => by
      rw [(hw b z).2] at e
      cases e]
    exact e
  have gn : ∀ a ∈ as, G a = none := fun a ha => r.fz.free (hw a ha).2
  have ni : ∀ a ∈ as, a ∉ ι := fun a ha z => r.trk a z (hw a ha).2
  refine ⟨⟨fun b u e => ?_⟩, r.len, r.nd, fun b hb => ?_, ⟨?_, fun b L cs pm c ctv e => ?_, fun b o v e d hb => ?_, fun z hz => ?_⟩, fun i b c e1 e2 => ?_⟩
  · by_cases z : b ∈ as
    · obtain ⟨o, ho⟩ := (hw b z).1
      rw [pinG_in z ho] at e
      cases e
      exact pinH_in z ho
    · rw [pinG_ne z] at e
      rw [pinH_ne z]
      exact r.fz.at_ b u e
  · rw [pinH_ne fun z => ni b z hb]
    exact r.trk b hb
  · exact (r.tb.keep (ι' := ι) (G' := G) (H' := pinH H as h) (fun _ _ e => e) (fun b u e _ => nx b u e) (fun _ h => .inl h) fun _ _ _ e => e).tab
  · by_cases z : b ∈ as
    · obtain ⟨o, ho⟩ := (hw b z).1
      rw [pinG_in z ho] at e
      have e' := Option.some.inj e
      unfold pinG at e'
      injection e' with e' _
      exact nx _ _ (hcode b z L cs pm c ctv (by rw [ho, e']))
    · rw [pinG_ne z] at e
      exact nx _ _ (r.tb.code b L cs pm c ctv e)
  · by_cases z : b ∈ as
    · exact ni b z hb
    · rw [pinG_ne z] at e
      exact r.tb.off b o v e d hb
  · obtain ⟨ps, t, _⟩ := r.tb.tab z hz
    rw [pinG_ne fun y => by
      rw [(hw _ y).2] at t
      cases t]
    exact r.tb.gtb z hz
  · have q : b ∉ as := fun z => ni b z (List.mem_of_getElem? e1)
    refine (r.cel i b c e1 e2).grow (grow_pin gn) ?_ fun u e => nx b u e
    cases hd : c.free
    · exact .inr rfl
    · exact .inl (by rw [pinG_ne q]; exact (r.cel i b c e1 e2).free hd)
/-- .. one more cell, of a thing that is known already -/
theorem RelH.add (r : RelH T ι G μ H) {f : Addr} {c : Cell} (hf : f ∉ ι) (hH : H f ≠ none) (ho : ∀ o v, G f = some (pinG o) → o.data ≠ .cell v) (hc : CellAt T ι G H f c) : RelH T (ι ++ [f]) G (μ ++ [c]) H := by
  refine ⟨r.fz, by rw [List.length_append, List.length_append, r.len]; rfl, ?_, fun a ha => ?_, ⟨r.tb.tab, r.tb.code, fun a o v e d ha => ?_, r.tb.gtb⟩, fun i a d e1 e2 => ?_⟩
  · rw [List.nodup_append]
    refine ⟨r.nd, by simp, fun a ha b hb e => ?_⟩
    rw [List.mem_singleton.mp hb] at e
    exact hf (e ▸ ha)
  · rcases List.mem_append.mp ha with z | z
    · exact r.trk a z
    · rw [List.mem_singleton.mp z]
      exact hH
  · rcases List.mem_append.mp ha with z | z
    · exact r.tb.off a o v e d z
    · rw [List.mem_singleton.mp z] at e
      exact ho o v e d
  · by_cases hi : i < ι.length
    · rw [List.getElem?_append_left hi] at e1
      rw [List.getElem?_append_left (by rw [← r.len]; exact hi)] at e2
      refine (r.cel i a d e1 e2).grow (Grow.cell ι G f) ?_ fun _ e => e
      cases hd : d.free
      · exact .inr rfl
      · exact .inl ((r.cel i a d e1 e2).free hd)
    · have hi2 : i = ι.length := by
        have := (List.getElem?_eq_some_iff.mp e1).1
        rw [List.length_append, List.length_singleton] at this
        omega
      subst hi2
      rw [List.getElem?_append_right (Nat.le_refl _), Nat.sub_self] at e1
      rw [List.getElem?_append_right (by rw [r.len]; exact Nat.le_refl _), r.len, Nat.sub_self] at e2
      cases e1
      cases e2
      refine hc.grow (Grow.cell ι G f) ?_ fun _ e => e
      cases hd : c.free
      · exact .inr rfl
      · exact .inl (hc.free hd)
/-- behind the call: the closure's cell goes, the pinned things are known no more -/
theorem unpin {as : List Addr} {h : Heap} {f : Addr} {v : V} {e : D} (r0 : RelH T ι G μ H) (hw : ∀ a ∈ as, (∃ o, h.get? a = some o) ∧ H a = none) (hcode : ∀ a ∈ as, ∀ L cs pm c ctv, h.get? a = some (lamO L cs pm c ctv) → H c = some (LamX.CodeO c L.qual))
    (hfc : ∀ a ∈ as, a ≠ f → ∃ o v, h.get? a = some o ∧ o.data = .cell v) (g : Grow (ι ++ [f]) ι' (pinGG G as h) G') (r : RelH T ι' G' μ' H') (rv : RepD T ι' G' v e) (hlt : e.lt μ.length = true) (hk : keeps μ.length μ μ' = true) (hn : noClo (μ'.take μ.length) = true) :
    Grow ι (ι'.take μ.length) G (outs G' as) ∧ RelH T (ι'.take μ.length) (outs G' as) (μ'.take μ.length) (outs H' as) ∧ RepD T (ι'.take μ.length) (outs G' as) v e := by
  have gn : ∀ a ∈ as, G a = none := fun a ha => r0.fz.free (hw a ha).2
  have g1 : Grow ι ι' (pinGG G as h) G' := ⟨fun i a e1 => g.ix i a (by rw [List.getElem?_append_left (List.getElem?_eq_some_iff.mp e1).1]; exact e1), g.ex⟩
  obtain ⟨g2, r2⟩ := RelH.leave (r0.pin hw hcode) g1 r hk
  have hp : ∀ a ∈ as, ∃ o, G' a = some (pinG o) ∧ h.get? a = some o := fun a ha => by
    obtain ⟨o, ho⟩ := (hw a ha).1
    exact ⟨o, g.ex _ _ (pinG_in ha ho), ho⟩
  have hp' : ∀ a ∈ as, ∃ o, G' a = some (pinG o) := fun a ha => (hp a ha).imp fun _ z => z.1
  have hfi : ι'[μ.length]? = some f := g.ix _ _ (by rw [← r0.len]; simp)
  have hi : ∀ a ∈ as, a ∉ ι'.take μ.length := fun a ha z => by
    by_cases hf : a = f
    · subst hf
      obtain ⟨i, hi, e1⟩ := List.mem_iff_getElem.mp z
      rw [List.length_take] at hi
      rw [List.getElem_take] at e1
      have e3 : ι'[i]? = some a := by rw [List.getElem?_eq_getElem (by omega), e1]
      have := nodup_get r.nd e3 hfi
      omega
    · obtain ⟨o, v, ho, d⟩ := hfc a ha hf
      obtain ⟨o2, e1, e2⟩ := hp a ha
      rw [ho] at e2
      cases e2
      exact r.tb.off a o v e1 d (List.mem_of_mem_take z)
  refine ⟨⟨g2.ix, fun b u e1 => ?_⟩, r2.outs hp' hn hi, (rv.back hlt).outs hp'⟩
  have z : b ∉ as := fun z => by
    rw [gn b z] at e1
    cases e1
  rw [outs_ne z]
  exact g.ex b u (by rw [pinG_ne z]; exact e1)
end
end Co

set_option linter.all false
set_option maxRecDepth 100000
set_option Elab.async false
/-! Cl7: a def gets a new closure. -/
namespace Co
open PySem PySem.Spec PyProof.Rows L2
theorem capsF_mem {H : Hp} {fr : List Addr} {h : Heap} {cs : List (Str × Addr)} {vs : List V} (c : CapsF H fr h cs vs) : ∀ a ∈ cs.map (·.2), ∃ o u, h.get? a = some o ∧ o.data = .cell (some u) ∧ H a = none ∧ a ∉ fr := by
  induction c with
  | nil => intro a ha; cases ha
  | cons a b r n f _ ih =>
    intro x hx
    rcases List.mem_cons.mp hx with z | z
    · rw [z]
      exact ⟨_, _, a, b, n, f⟩
    · exact ih x z
theorem capsF_caps {G H : Hp} {fr as : List Addr} {h : Heap} {cs : List (Str × Addr)} {vs : List V} (c : CapsF H fr h cs vs) (hs : ∀ p ∈ cs, p.2 ∈ as) : Caps (pinGG G as h) cs vs := by
  induction c with
  | nil => exact .nil
  | cons a b r n f _ ih => exact .cons (pinG_in (hs _ List.mem_cons_self) a) b r (ih fun p hp => hs p (List.mem_cons_of_mem _ hp))
section
variable {q : Cq} {X : Cx}
theorem mlam_call {pins : List (Addr × Obj)} {σ : L2.St} {s : Shared} {ι : List Addr} {G H : Hp} {μ : Store} {g lf : Nat} {f c : Addr} {L : LamD} {cs : List (Str × Addr)} {pm ctv : Value} {vs : List V} {ds : List D} {d : D} {v : V} {u : Value} {Q : VK} {W : WX} {fd : FuncData} {pn : List Str}
    (I : Inv X pins σ H s) (hr : Room q.k X.A) (F : FnOk X.prog X.w X.K X.mg X.base (L2.CX X.prog X.w) q.k (q.fA g) fd pn (spC q.T q.call g)) (hb : Binds X.K fd pn []) (R : RelH q.T ι G μ H)
    (hf : s.heap.get? f = some (lamO L cs pm c ctv)) (nf : H f = none) (nfr : f ∉ frs X.stack) (bf : X.base.get? f = none) (hc : H c = some (LamX.CodeO c L.qual)) (hL : q.T.lam lf = some L) (hcs : cs.map (·.1) = L.cap) (hnd : (cs.map (·.2)).Nodup)
    (hcap : CapsF H (frs X.stack) s.heap cs vs) (bc : ∀ a ∈ cs.map (·.2), X.base.get? a = none) (rd : RepL q.T ι G vs ds) (rv : RepD q.T ι G v d) (ru : RelV v u) (hct : Ct q.T W σ ι G (lamS q.call g d lf ds μ) Q) :
    wpAny (model X.prog X.w) X.A (call (.ref (q.fA g)) [u, .ref f]) (EP X pins σ Q) X.xe s := by
  have hcm := capsF_mem hcap
  have hw : ∀ a ∈ f :: cs.map (·.2), (∃ o, s.heap.get? a = some o) ∧ H a = none ∧ a ∉ frs X.stack ∧ X.base.get? a = none := fun a ha => by
    rcases List.mem_cons.mp ha with z | z
    · rw [z]
      exact ⟨⟨_, hf⟩, nf, nfr, bf⟩
    · obtain ⟨o, _, h1, _, h3, h4⟩ := hcm a z
      exact ⟨⟨o, h1⟩, h3, h4, bc a z⟩
  have hw2 : ∀ a ∈ f :: cs.map (·.2), (∃ o, s.heap.get? a = some o) ∧ H a = none := fun a ha => ⟨(hw a ha).1, (hw a ha).2.1⟩
  have hcode : ∀ a ∈ f :: cs.map (·.2), ∀ L' cs' pm' c' ctv', s.heap.get? a = some (lamO L' cs' pm' c' ctv') → H c' = some (LamX.CodeO c' L'.qual) := fun a ha L' cs' pm' c' ctv' e => by
    rcases List.mem_cons.mp ha with z | z
    · rw [z, hf] at e
      have e' := Option.some.inj e
      unfold lamO PySem.W.kla_obj at e'
      injection e' with _ _ e' _
      have e3 := e'
      simp only [Data.func.injEq] at e3
      have eq1 : L.qual = L'.qual := congrArg FuncData.qualname e3
      have eq2 : Value.ref c = Value.ref c' := congrArg FuncData.code e3
      cases eq2
      rw [← eq1]
      exact hc
    · obtain ⟨o, _, h1, h2, _⟩ := hcm a z
      rw [h1] at e
      cases e
      cases h2
  have hfc : ∀ a ∈ f :: cs.map (·.2), a ≠ f → ∃ o v, s.heap.get? a = some o ∧ o.data = .cell v := fun a ha n => by
    rcases List.mem_cons.mp ha with z | z
    · exact absurd z n
    · obtain ⟨o, u, h1, h2, _⟩ := hcm a z
      exact ⟨o, _, h1, h2⟩
  have gn : ∀ a ∈ f :: cs.map (·.2), G a = none := fun a ha => R.fz.free (hw a ha).2.1
  have R1 := R.pin hw2 hcode
  have hfι : f ∉ ι := fun z => R.trk f z nf
  have gf : pinGG G (f :: cs.map (·.2)) s.heap f = some (pinG (lamO L cs pm c ctv)) := pinG_in List.mem_cons_self hf
  have hfH : pinH H (f :: cs.map (·.2)) s.heap f = some (.frz (lamO L cs pm c ctv) oX) := pinH_in List.mem_cons_self hf
  have g1 : Grow ι ι G (pinGG G (f :: cs.map (·.2)) s.heap) := grow_pin gn
  have R2 := R1.add (c := .clo lf ds) hfι (by rw [hfH]; simp) (fun o v e => by
    rw [gf] at e
    have e' := Option.some.inj e
    unfold pinG at e'
    injection e' with e' _
    rw [← e']
    exact fun z => by cases z) (.clo hL gf hfH hcs hnd (capsF_caps hcap fun p hp => List.mem_cons_of_mem _ (List.mem_map.mpr ⟨p, hp, rfl⟩)) (rd.mono g1))
  have gA : Grow ι (ι ++ [f]) G (pinGG G (f :: cs.map (·.2)) s.heap) := g1.trans (Grow.cell ι _ f)
  unfold lamS at hct
  have sp : spC q.T q.call g [v, .ref f] (pinH H (f :: cs.map (·.2)) s.heap) (fun w H' => Q w (outs H' (f :: cs.map (·.2)))) (fun _ _ _ => False) := by
    refine ⟨ι ++ [f], _, μ ++ [.clo lf ds], [d, .cell μ.length], R2, .cons (rv.mono gA) (.cons (.cell (by rw [← R.len]; simp)) .nil), ?_⟩
    cases er : q.call g [d, .cell μ.length] (μ ++ [.clo lf ds]) with
    | bad => rw [er] at hct; exact hct.elim
    | ex y μ2 => rw [er] at hct; exact hct.elim
    | ok e μ2 =>
      rw [er] at hct
      simp only at hct
      split at hct
      · rename_i hh
        simp only [Bool.and_eq_true] at hh
        obtain ⟨⟨h1, h2⟩, h3⟩ := hh
        intro w ι' G' H' g' r' rw'
        obtain ⟨a1, a2, a3⟩ := unpin R hw2 hcode hfc g' r' rw' h1 h2 h3
        exact hct w _ _ _ a1 a2 a3
      · exact hct.elim
  have hl := F.len _ _ _ _ sp
  have bnd := hb s [u, .ref f] I.kIn (by simpa using hl)
  refine wpAny_call (codeAny_mono (F.run X.A X.stack s _ ⟨[u, .ref f], []⟩ ([u, .ref f] ++ []) [v, .ref f] _ _ hr (env0_pin I.env0 hw) bnd (.cons ru (.cons rfl .nil)) sp) fun r s' hq => ?_)
  cases r with
  | error e =>
    obtain ⟨_, _, _, _, _, _, _, _, _, _, _, _, z⟩ := hq
    exact z.elim
  | ok fl =>
    cases fl with
    | ret u2 =>
      have hq' : L2.CE X.stack X.prog X.w (pinH H (f :: cs.map (·.2)) s.heap) s (fun w H' => Q w (outs H' (f :: cs.map (·.2)))) u2 s' := hq
      exact I.after (CE_unpin hw2 hq' fun _ _ z => z)
    | next => exact False.elim hq
    | brk => exact False.elim hq
    | cont => exact False.elim hq
end
end Co

set_option linter.all false
set_option maxRecDepth 100000
set_option Elab.async false
/-! Cl8: the captured names of a new lambda. -/
namespace Co
open PySem PySem.Spec PyProof.Rows L2
/-- the free names of a scope, as a closure lists them -/
def frees : List (Str × NameKind) → List Str → List Str
  | [], acc => acc
  | (m, k) :: r, acc => if k == .free then frees r (m :: acc) else frees r acc
theorem clo_keys {cells : List (Str × Addr)} : ∀ {names : List (Str × NameKind)} {acc : List (Str × Addr)}, (cloFrom cells names acc).map (·.1) = frees names (acc.map (·.1))
  | [], _ => rfl
  | (m, k) :: r, acc => by
    unfold cloFrom frees
    split
    · rw [clo_keys]
      rfl
    · exact clo_keys
section
variable {X : Cx} {pins : List (Addr × Obj)} {σ : L2.St} {H : Hp} {s : Shared}
/-- one captured name -/
theorem cap_one (I : Inv X pins σ H s) (hfn : ∀ y, X.fn y = true) (hst : X.stack = X.env :: X.outer) (hfr : X.env.frame = some X.env.locals) {y : Str} {c : Addr} {i : Nat} {v : V} (hc : X.env.cells.lookup y = some c) (hk : X.env.scope.names.lookup y = some .cell)
    (hN : X.N[i]? = some y) (hv : σ[i]? = some (some v)) : (∃ o u, s.heap.get? c = some o ∧ o.data = .cell (some u) ∧ RelV v u) ∧ H c = none ∧ c ∉ frs X.stack ∧ X.base.get? c = none := by
  obtain ⟨m, hn, hl⟩ := I.loc
  obtain ⟨u, ru, lk⟩ := hl i y v hN hv (.inr (.inl hk))
  have ab := I.ok.cab y c (hfn y) hc
  refine ⟨?_, I.freeC y c hc, fun z => ?_, ?_⟩
  · rcases lk with ⟨k, _⟩ | ⟨_, c2, e, o, ho, hd⟩
    · have k : X.env.scope.names.lookup y = some .local := k
      rw [hk] at k
      cases k
    · rw [hc] at e
      cases e
      exact ⟨o, u, ho, hd, ru⟩
  · rw [hst] at z
    have z : c ∈ ((X.env :: X.outer).filterMap (·.frame)) := z
    rw [List.filterMap_cons, hfr] at z
    rcases List.mem_cons.mp z with z | z
    · exact I.cne y c hc z
    · obtain ⟨_, o, ho, _⟩ := I.ok.funs.mem z
      exact Nat.lt_irrefl _ (Nat.lt_of_lt_of_le (Heap.lt_size ho) ab)
  · cases e : X.base.get? c with
    | none => rfl
    | some o => exact absurd (Nat.lt_of_lt_of_le (Heap.lt_size e) (Nat.le_trans I.ok.bsz ab)) (Nat.lt_irrefl _)
/-- slots, names and values in step -/
inductive Slots (X : Cx) (σ : L2.St) : List Nat → List Str → List V → Prop
  | nil : Slots X σ [] [] []
  | cons {j : Nat} {y : Str} {v : V} {js : List Nat} {ys : List Str} {vs : List V} : X.N[j]? = some y → X.env.scope.names.lookup y = some .cell → σ[j]? = some (some v) → Slots X σ js ys vs → Slots X σ (j :: js) (y :: ys) (v :: vs)
theorem caps_of (I : Inv X pins σ H s) (hfn : ∀ y, X.fn y = true) (hst : X.stack = X.env :: X.outer) (hfr : X.env.frame = some X.env.locals) : ∀ {cs : List (Str × Addr)} {js : List Nat} {vs : List V}, (∀ p ∈ cs, X.env.cells.lookup p.1 = some p.2) → Slots X σ js (cs.map (·.1)) vs →
    CapsF H (frs X.stack) s.heap cs vs ∧ ∀ a ∈ cs.map (·.2), X.base.get? a = none
  | [], _, _, _, sl => by
    cases sl
    exact ⟨.nil, fun a ha => by cases ha⟩
  | (y, c) :: cs, _, _, hc, sl => by
    cases sl with
    | cons h1 h2 h3 t =>
      obtain ⟨⟨o, u, k1, k2, k3⟩, k4, k5, k6⟩ := cap_one I hfn hst hfr (hc _ List.mem_cons_self) h2 h1 h3
      obtain ⟨t1, t2⟩ := caps_of I hfn hst hfr (fun p hp => hc p (List.mem_cons_of_mem _ hp)) t
      refine ⟨.cons k1 k2 k3 k4 k5 t1, fun a ha => ?_⟩
      rcases List.mem_cons.mp ha with z | z
      · rw [z]
        exact k6
      · exact t2 a z
/-- the addresses stand apart -/
theorem caps_nd (I : Inv X pins σ H s) : ∀ {cs : List (Str × Addr)}, (∀ p ∈ cs, X.env.cells.lookup p.1 = some p.2) → (cs.map (·.1)).Nodup → (cs.map (·.2)).Nodup
  | [], _, _ => List.nodup_nil
  | (y, c) :: cs, hc, hn => by
    rw [List.map_cons, List.nodup_cons] at hn ⊢
    refine ⟨fun z => ?_, caps_nd I (fun p hp => hc p (List.mem_cons_of_mem _ hp)) hn.2⟩
    obtain ⟨p, hp, e⟩ := List.mem_map.mp z
    have e1 := hc p (List.mem_cons_of_mem _ hp)
    have e2 := hc _ (List.mem_cons_self : (y, c) ∈ (y, c) :: cs)
    have e3 : X.env.cells.lookup p.1 = some c := by rw [e1, e]
    have := I.ok.inj _ _ _ e3 e2
    exact hn.1 (List.mem_map.mpr ⟨p, hp, this⟩)
end
end Co

set_option linter.all false
set_option maxRecDepth 100000
set_option Elab.async false
/-! Co6: operators. -/
namespace Co
open PySem L2
variable {q : Cq} {sc : Scope} {N : List Str} {W : WX} {X : Cx}
/-! ### signs -/
theorem strK_add {a b : Str} (h : strK a) (g : strK b) : strK (a ++ b) := by
  intro c hc
  have e : (a ++ b).cps.toList = a.cps.toList ++ b.cps.toList := by
    show (a.cps ++ b.cps).toList = _
    simp
  rw [e, List.mem_append] at hc
  exact hc.elim (h c) (g c)
theorem strK_sub {a : Str} (h : strK a) {b : Str} (s : ∀ c ∈ b.cps.toList, c ∈ a.cps.toList) : strK b := fun c hc => h c (s c hc)
/-! ### two parts -/
/-- op on two values: what the reading R asks follows from what is told -/
def Op2 (q : Cq) (W : WX) (f : D → D → Store → RD) (R : R2) (d e : D) (μ : Store) : Prop :=
  ∀ (v y : V) (ι : List Addr) (G H : Hp) (σ : L2.St) (Q : VK), RelH q.T ι G μ H → RepD q.T ι G v d → RepD q.T ι G y e → Ct q.T W σ ι G (f d e μ) Q → R v y H Q
theorem two_ok {a b : CE} {e0 : Expr} {f : D → D → Store → RD} {t' : TE} (any : ∃ R, PE X e0 (tOp R (tE q W a) (tE q W b)))
    (op : ∀ d e μ, f d e μ ≠ .bad → ∃ R, PE X e0 (tOp R (tE q W a) (tE q W b)) ∧ Op2 q W f R d e μ)
    (h : ∀ σ H Q, t' σ H Q → ∃ (env : Env) (μ : Store) (ι : List Addr) (G : Hp), RelH q.T ι G μ H ∧ RelS q.T ι G env σ ∧ Ct q.T W σ ι G ((evE q.P q.call a env μ).bind fun d μ => (evE q.P q.call b env μ).bind fun e μ => f d e μ) Q) : PE X e0 t' := by
  refine PE.dyn fun σ H Q ht => ?_
  obtain ⟨env, μ, ι, G, R, S, c⟩ := h σ H Q ht
  have main : ∀ R2 : R2, (∀ d μ1 e μ2, evE q.P q.call a env μ = .ok d μ1 → evE q.P q.call b env μ1 = .ok e μ2 → Op2 q W f R2 d e μ2) → tOp R2 (tE q W a) (tE q W b) σ H Q := fun R2 hr =>
    ⟨env, μ, ι, G, R, S, GCt.bind c fun d μ1 v ι1 G1 H1 ea g1 r1 d1 c1 => ⟨env, μ1, ι1, G1, r1, S.mono g1, GCt.bind c1 fun e μ2 y ι2 G2 H2 eb g2 r2 d2 c2 => hr d μ1 e μ2 ea eb v y ι2 G2 H2 σ Q r2 (d1.mono g2) d2 c2⟩⟩
  cases ea : evE q.P q.call a env μ with
  | bad => rw [ea] at c; exact c.elim
  | ex x μ1 =>
    obtain ⟨R2, h2⟩ := any
    exact ⟨_, h2, main R2 fun d μ1 e μ2 z => by rw [ea] at z; cases z⟩
  | ok d μ1 => cases eb : evE q.P q.call b env μ1 with
    | bad => rw [ea, Res.bind_ok, eb] at c; exact c.elim
    | ex x μ2 =>
      obtain ⟨R2, h2⟩ := any
      exact ⟨_, h2, main R2 fun d' μ1' e μ2 z1 z2 => by rw [ea] at z1; cases z1; rw [eb] at z2; cases z2⟩
    | ok e μ2 =>
      rw [ea, Res.bind_ok, eb, Res.bind_ok] at c
      obtain ⟨R2, h2, h3⟩ := op d e μ2 c.ok
      exact ⟨_, h2, main R2 fun d' μ1' e' μ2' z1 z2 => by rw [ea] at z1; cases z1; rw [eb] at z2; cases z2; exact h3⟩
/-! ### arithmetic -/
def oBin : Operator → Option BinO
  | .Add => some .add
  | .Sub => some .sub
  | .Mult => some .mul
  | .Mod => some .mod
  | .FloorDiv => some .fdiv
  | .Pow => some .pow
  | .LShift => some .shl
  | _ => none
/-- a text so many times -/
def rMulS : R2 := fun x y H Q => ∃ i j, x = V.str i ∧ y = V.int j ∧ MulOk i j ∧ Q (.str (Txt.mul i j)) H
theorem op_mulS : OpR X (binaryOp .Mult) rMulS := by
  intro pins s σ H x y v u Q I rx ry h
  obtain ⟨i, j, rfl, rfl, hz, q⟩ := h
  obtain ⟨t, rfl⟩ := rx
  obtain ⟨t', rfl⟩ := ry
  exact SB.mul hz fun t' tk => ⟨.str (Txt.mul i j), H, I.tok _, ⟨_, rfl⟩, q⟩
theorem mulSB_ok {a : Str} {n : Int} (h : mulSB a n = true) : MulOk a n := by
  unfold mulSB at h
  have h := of_decide_eq_true h
  obtain ⟨h1, h2, h3⟩ := h
  refine ⟨?_, fun h4 h5 => ?_, fun h4 h5 => ?_⟩
  · rw [Bool.or_eq_false_iff]
    exact ⟨decide_eq_false (by omega), decide_eq_false (by omega)⟩
  · have : (1000000 : Int) ≤ (2 ^ 63 - 1) / n := by
      rw [Int.le_ediv_iff_mul_le (by omega)]
      have : (1000000 : Int) * n ≤ 1000000 * 1000000 := by omega
      omega
    omega
  · have hm : a.length * n.toNat ≤ 16 * 1000000 := Nat.mul_le_mul h3 (by omega)
    have hs : (16 * 1000000 : Nat) ≤ sizeLine := by decide
    unfold Builtin.Str.tooLong
    exact decide_eq_false (by omega)
theorem strK_mul {a : Str} (h : strK a) (n : Int) : strK (Txt.mul a n) := by
  have main : ∀ (m : Nat) (x : Array Nat), (∀ c ∈ x.toList, c < 0x110000) → ∀ c ∈ ((List.replicate m a.cps).foldl (· ++ ·) x).toList, c < 0x110000 := fun m => by
    induction m with
    | zero => exact fun x hx => hx
    | succ m ih =>
      intro x hx
      rw [List.replicate_succ, List.foldl_cons]
      refine ih _ fun c hc => ?_
      rw [Array.toList_append, List.mem_append] at hc
      exact hc.elim (hx c) (h c)
  unfold Txt.mul
  split
  · exact fun c hc => by cases hc
  · split
    · exact h
    · exact main _ _ fun c hc => by cases hc
/-- lists put together, any that may be read -/
def rCatR : R2 := fun x y H Q => ∃ l b xs zs, x = .ref l ∧ y = .ref b ∧ Rd H l (.lst xs) ∧ Rd H b (.lst zs) ∧ xs.length + zs.length ≤ sizeLine ∧ ∀ p, H p = none → Q (.ref p) (upd H p (.lst (xs ++ zs)))
theorem op_catR : OpR X (binaryOp .Add) rCatR := by
  intro pins s σ H x y v u Q I rx ry h
  obtain ⟨l, b, xs, zs, rfl, rfl, hH, hB, hz, q⟩ := h
  cases rx
  cases ry
  obtain ⟨z, its, n, r, e⟩ := hH.ok I.hok
  obtain ⟨z2, its2, n2, r2, e2⟩ := hB.ok I.hok
  refine PySem.P.add_list e e2 ?_ (by rw [List.size_toArray, List.size_toArray, ← r.length, ← r2.length]; omega)
  have ea : its.toArray ++ its2.toArray = (its ++ its2).toArray := by simp
  rw [ea]
  exact ⟨.ref _, _, I.lnew (t' := s.toks) (r.append r2) (by rw [List.length_append]; omega), rfl, q _ I.fresh⟩
theorem ct_val {T : Nam} {W : WX} {σ : L2.St} {ι : List Addr} {G H : Hp} {μ : Store} {d : D} {v : V} {Q : VK} (c : Ct T W σ ι G (.ok d μ) Q) (R : RelH T ι G μ H) (r : RepD T ι G v d) : Q v H := c v ι G H (Grow.refl ι G) R r
/-- .. a new frozen thing -/
theorem ct_new {T : Nam} {W : WX} {σ : L2.St} {ι : List Addr} {G H : Hp} {μ : Store} {d : D} {v : V} {Q : VK} (c : Ct T W σ ι G (.ok d μ) Q) (R : RelH T ι G μ H) {p : Addr} (o : HO) (h : H p = none) (r : ∀ G', Grow ι ι G G' → G' p = some o → RepD T ι G' v d) (ho : rl o = o := by rfl) (hnt : ∀ ps, o ≠ .tbl ps := by intro ps z; cases z) : Q v (upd H p o) :=
  c v ι _ _ (Grow.frozen o (R.fz.free h)) (R.frozen o h ho hnt) (r _ (Grow.frozen o (R.fz.free h)) upd_same)
theorem flip_len {n : Nat} (h : sz n = true) : n ≤ sizeLine := of_decide_eq_true h
theorem cat_case {d e : D} {μ : Store} (h : binS μ .add d e = match lstOf μ d, lstOf μ e with
      | some xs, some ys => if sz (xs.length + ys.length) then .ok (.lst (xs ++ ys)) μ else .bad
      | _, _ => .bad) (hb : binS μ .add d e ≠ .bad) : ∃ R : R2, OpR X (binaryOp .Add) R ∧ Op2 q W (fun d e μ => binS μ .add d e) R d e μ := by
  rw [h] at hb
  cases h1 : lstOf μ d with
  | none => rw [h1] at hb; exact absurd rfl hb
  | some xs => cases h2 : lstOf μ e with
    | none => rw [h1, h2] at hb; exact absurd rfl hb
    | some ys =>
      rw [h1, h2] at hb
      have hz : sz (xs.length + ys.length) = true := by
        cases h : sz (xs.length + ys.length) with
        | true => rfl
        | false => exact absurd (show (if sz (xs.length + ys.length) then _ else _) = _ by rw [h]; rfl) hb
      refine ⟨_, op_catR, fun v y ι G H σ Q R r1 r2 c => ?_⟩
      obtain ⟨a, vs, e1, e2, e3⟩ := R.lstOf r1 h1
      obtain ⟨b, ws, f1, f2, f3⟩ := R.lstOf r2 h2
      have c' : Ct q.T W σ ι G (binS μ .add d e) Q := c
      rw [h, h1, h2] at c'
      simp only at c'
      rw [if_pos hz] at c'
      exact ⟨a, b, vs, ws, e1, f1, e2, f2, by rw [e3.length, f3.length]; exact flip_len hz, fun p hp => ct_new c' R _ hp fun G' g z => .lst (.inl z) ((e3.append f3).mono g)⟩
theorem bin_op {o : BinO} {op : Operator} (ho : oBin op = some o) (d e : D) (μ : Store) (hb : binS μ o d e ≠ .bad) : ∃ R : R2, OpR X (binaryOp op) R ∧ Op2 q W (fun d e μ => binS μ o d e) R d e μ := by
  cases op <;> (simp only [oBin] at ho) <;> cases ho
  · -- add
    cases d with
    | int i => cases e with
      | int j => exact ⟨_, op_add, fun v y ι G H σ Q R r1 r2 c => by cases r1; cases r2; exact ⟨i, j, rfl, rfl, ct_val c R (.int _)⟩⟩
      | _ => exact absurd rfl hb
    | str a => cases e with
      | str b =>
        have hz : sz (a.length + b.length) = true := by
          cases h : sz (a.length + b.length) with
          | true => rfl
          | false => exact absurd (show (if sz (a.length + b.length) then _ else _) = _ by rw [h]; rfl) hb
        refine ⟨_, op_add_str, fun v y ι G H σ Q R r1 r2 c => ?_⟩
        cases r1 with
        | str k1 => cases r2 with
          | str k2 =>
            have c' : Ct q.T W σ ι G (if sz (a.length + b.length) then .ok (.str (a ++ b)) μ else .bad) Q := c
            rw [if_pos hz] at c'
            exact ⟨a, b, rfl, rfl, flip_len hz, ct_val c' R (.str (strK_add k1 k2))⟩
      | _ => exact absurd rfl hb
    | tup xs => cases e with
      | tup ys =>
        have hz : sz (xs.length + ys.length) = true := by
          cases h : sz (xs.length + ys.length) with
          | true => rfl
          | false => exact absurd (show (if sz (xs.length + ys.length) then _ else _) = _ by rw [h]; rfl) hb
        refine ⟨_, op_catA, fun v y ι G H σ Q R r1 r2 c => ?_⟩
        cases r1 with
        | tup g1 l1 => cases r2 with
          | tup g2 l2 =>
            rename_i a vs b ws
            have c' : Ct q.T W σ ι G (if sz (xs.length + ys.length) then .ok (.tup (xs ++ ys)) μ else .bad) Q := c
            rw [if_pos hz] at c'
            have n1 := l1.length
            have n2 := l2.length
            refine ⟨a, b, vs, ws, rfl, rfl, .inl (.inl (R.fz.tup g1)), .inl (.inl (R.fz.tup g2)), by rw [n1, n2]; exact flip_len hz, fun z => ?_, fun _ z => ?_, fun _ _ p hp => ct_new c' R _ hp fun G' g e => .tup e ((l1.append l2).mono g)⟩
            · subst z
              obtain rfl : xs = [] := List.length_eq_zero_iff.mp n1.symm
              exact ct_val c' R (.tup g2 l2)
            · subst z
              obtain rfl : ys = [] := List.length_eq_zero_iff.mp n2.symm
              exact ct_val c' R (.tup g1 (by rw [List.append_nil]; exact l1))
      | _ => exact absurd rfl hb
    | lst xs => exact cat_case rfl hb
    | cell i => exact cat_case rfl hb
    | _ => exact absurd rfl hb
  · -- sub
    cases d with
    | int i => cases e with
      | int j => exact ⟨_, op_sub, fun v y ι G H σ Q R r1 r2 c => by cases r1; cases r2; exact ⟨i, j, rfl, rfl, ct_val c R (.int _)⟩⟩
      | _ => exact absurd rfl hb
    | _ => exact absurd rfl hb
  · -- mul
    cases d with
    | int i => cases e with
      | int j =>
        have hz : mulB i j = true := by
          cases h : mulB i j with
          | true => rfl
          | false => exact absurd (show (if mulB i j then _ else _) = _ by rw [h]; rfl) hb
        refine ⟨_, op_mulW, fun v y ι G H σ Q R r1 r2 c => ?_⟩
        have c : Ct q.T W σ ι G (binS μ .mul (.int i) (.int j)) Q := c
        rw [binS_mul μ i j hz] at c
        cases r1
        cases r2
        exact ⟨i, j, rfl, rfl, of_decide_eq_true (p := i.natAbs.log2 + j.natAbs.log2 < 1000000) hz, ct_val c R (.int _)⟩
      | _ => exact absurd rfl hb
    | str a => cases e with
      | int j =>
        have hz : mulSB a j = true := by
          cases h : mulSB a j with
          | true => rfl
          | false => exact absurd (show (if mulSB a j then _ else _) = _ by rw [h]; rfl) hb
        refine ⟨_, op_mulS, fun v y ι G H σ Q R r1 r2 c => ?_⟩
        have c : Ct q.T W σ ι G (if mulSB a j then .ok (.str (Txt.mul a j)) μ else .bad) Q := c
        rw [if_pos hz] at c
        cases r1 with
        | str k1 => cases r2; exact ⟨a, j, rfl, rfl, mulSB_ok hz, ct_val c R (.str (strK_mul k1 j))⟩
      | _ => exact absurd rfl hb
    | _ => exact absurd rfl hb
  · -- mod
    cases d with
    | int i => cases e with
      | int j =>
        have hz : 0 < j := by
          by_cases h : 0 < j
          · exact h
          · exact absurd (show (if decide (0 < j) then _ else _) = _ by rw [decide_eq_false h]; rfl) hb
        refine ⟨_, op_mod, fun v y ι G H σ Q R r1 r2 c => ?_⟩
        have c : Ct q.T W σ ι G (binS μ .mod (.int i) (.int j)) Q := c
        rw [binS_mod μ i j hz] at c
        cases r1
        cases r2
        exact ⟨i, j, rfl, rfl, hz, ct_val c R (.int _)⟩
      | _ => exact absurd rfl hb
    | _ => exact absurd rfl hb
  · -- pow
    cases d with
    | int i => cases e with
      | int j =>
        have hz : powB i j = true := by
          cases h : powB i j with
          | true => rfl
          | false => exact absurd (show (if powB i j then _ else _) = _ by rw [h]; rfl) hb
        refine ⟨_, op_pow, fun v y ι G H σ Q R r1 r2 c => ?_⟩
        have c : Ct q.T W σ ι G (binS μ .pow (.int i) (.int j)) Q := c
        rw [binS_pow μ i j hz] at c
        cases r1
        cases r2
        exact ⟨i, j, rfl, rfl, of_decide_eq_true (p := 0 ≤ j ∧ j ≤ 1000000 ∧ i.natAbs < 2 ^ 64) hz, ct_val c R (.int _)⟩
      | _ => exact absurd rfl hb
    | _ => exact absurd rfl hb
  · -- shl
    cases d with
    | int i => cases e with
      | int j =>
        have hz : powB i j = true := by
          cases h : powB i j with
          | true => rfl
          | false => exact absurd (show (if powB i j then _ else _) = _ by rw [h]; rfl) hb
        refine ⟨_, op_shl, fun v y ι G H σ Q R r1 r2 c => ?_⟩
        have c : Ct q.T W σ ι G (binS μ .shl (.int i) (.int j)) Q := c
        rw [binS_shl μ i j hz] at c
        cases r1
        cases r2
        exact ⟨i, j, rfl, rfl, of_decide_eq_true (p := 0 ≤ j ∧ j ≤ 1000000 ∧ i.natAbs < 2 ^ 64) hz, ct_val c R (.int _)⟩
      | _ => exact absurd rfl hb
    | _ => exact absurd rfl hb
  · -- fdiv
    cases d with
    | int i => cases e with
      | int j =>
        have hz : divB j = true := by
          cases h : divB j with
          | true => rfl
          | false => exact absurd (show (if divB j then _ else _) = _ by rw [h]; rfl) hb
        refine ⟨_, op_fdivW, fun v y ι G H σ Q R r1 r2 c => ?_⟩
        have c : Ct q.T W σ ι G (binS μ .fdiv (.int i) (.int j)) Q := c
        rw [binS_fdiv μ i j hz] at c
        cases r1
        cases r2
        exact ⟨i, j, rfl, rfl, of_decide_eq_true (p := 0 < j ∧ j.natAbs.log2 < 9000) hz, ct_val c R (.int _)⟩
      | _ => exact absurd rfl hb
    | _ => exact absurd rfl hb
/-! ### data, equality -/
mutual
def toPy : D → PyData
  | .non => .none
  | .bl b => .bool b
  | .int i => .int i
  | .str x => .str x
  | .tup xs => .tuple (toPys xs)
  | .wtup xs => .tuple (toPys xs)
  | .lst xs => .list (toPys xs)
  | .dic _ _ => .none
  | .ins _ _ => .none
  | .cell _ => .none
termination_by structural x => x
def toPys : List D → List PyData
  | [] => []
  | x :: r => toPy x :: toPys r
termination_by structural x => x
end
theorem strK_ok {x : Str} (h : strK x) : PyData.strOk x = true := by
  unfold PyData.strOk
  rw [← Array.all_toList]
  exact List.all_eq_true.mpr fun c hc => decide_eq_true (h c hc)
mutual
theorem dp_of {T : Nam} {ι : List Addr} {G H : Hp} (f : Fz G H) : ∀ {n : Nat} {v : V} {d : D}, RepD T ι G v d → d.dat n = true → Dp T.K H v (toPy d) ∧ (toPy d).canLay0 = true ∧ (toPy d).depth ≤ n
  | _, _, _, .non, _ => ⟨.non, rfl, Nat.zero_le _⟩
  | _, _, _, .bl b, _ => ⟨.bl b, rfl, Nat.zero_le _⟩
  | _, _, _, .int b, _ => ⟨.int b, rfl, Nat.zero_le _⟩
  | _, _, _, .str k, _ => ⟨.str _, by unfold toPy PyData.canLay0; exact strK_ok k, Nat.zero_le _⟩
  | n, _, _, .tup e r, h => by
    cases n with
    | zero => unfold D.dat at h; cases h
    | succ n =>
      obtain ⟨a, b, c⟩ := dps_of f (n := n) r (by unfold D.dat at h; exact h)
      refine ⟨?_, ?_, ?_⟩
      · unfold toPy; exact .tup (.inl (.inl (f.tup e))) a
      · unfold toPy PyData.canLay0; exact b
      · unfold toPy PyData.depth; omega
  | n, _, _, .wtup e r, h => by
    cases n with
    | zero => unfold D.dat at h; cases h
    | succ n =>
      obtain ⟨a, b, c⟩ := dps_of f (n := n) r (by unfold D.dat at h; exact h)
      refine ⟨?_, ?_, ?_⟩
      · unfold toPy; exact .tup (f.sqt e) a
      · unfold toPy PyData.canLay0; exact b
      · unfold toPy PyData.depth; omega
  | n, _, _, .lst e r, h => by
    cases n with
    | zero => unfold D.dat at h; cases h
    | succ n =>
      obtain ⟨a, b, c⟩ := dps_of f (n := n) r (by unfold D.dat at h; exact h)
      refine ⟨?_, ?_, ?_⟩
      · unfold toPy; exact .lst (.inl (f.rdl e)) a
      · unfold toPy PyData.canLay0; exact b
      · unfold toPy PyData.depth; omega
  | _, _, _, .dicK e r, h => by unfold D.dat at h; cases h
  | _, _, _, .dicT e r, h => by unfold D.dat at h; cases h
  | _, _, _, .ins e r, h => by unfold D.dat at h; cases h
  | _, _, _, .cell e, h => by unfold D.dat at h; cases h
theorem dps_of {T : Nam} {ι : List Addr} {G H : Hp} (f : Fz G H) : ∀ {n : Nat} {v : List V} {d : List D}, RepL T ι G v d → D.dats n d = true → DpAll T.K H v (toPys d) ∧ PyData.canLayAll0 (toPys d) = true ∧ PyData.depthAll (toPys d) ≤ n
  | _, _, _, .nil, _ => ⟨.nil, rfl, Nat.zero_le _⟩
  | n, _, _, .cons h r, e => by
    unfold D.dats at e
    rw [Bool.and_eq_true] at e
    obtain ⟨a, b, c⟩ := dp_of f h e.1
    obtain ⟨a2, b2, c2⟩ := dps_of f r e.2
    refine ⟨?_, ?_, ?_⟩
    · unfold toPys; exact .cons a a2
    · unfold toPys PyData.canLayAll0; rw [b, b2]; rfl
    · unfold toPys PyData.depthAll; omega
end
mutual
theorem eqv_py : ∀ {n m : Nat} (d e : D), d.dat n = true → e.dat m = true → PyData.eqv (toPy d) (toPy e) = d.eqv e
  | _, _, .non, e, _, h => by cases e <;> first | rfl | (unfold D.dat at h; cases h)
  | _, _, .bl b, e, _, h => by cases e <;> first | rfl | (unfold D.dat at h; cases h)
  | _, _, .int b, e, _, h => by cases e <;> first | rfl | (unfold D.dat at h; cases h)
  | _, _, .str b, e, _, h => by
    cases e with
    | str y => show (b == y) = decide (b = y); by_cases q : b = y <;> simp [q]
    | _ => first | rfl | (unfold D.dat at h; cases h)
  | n, m, .tup xs, e, g, h => by
    cases n with
    | zero => unfold D.dat at g; cases g
    | succ n =>
      cases e with
      | tup ys => cases m with
        | zero => unfold D.dat at h; cases h
        | succ m => exact eqvs_py xs ys (by unfold D.dat at g; exact g) (by unfold D.dat at h; exact h)
      | wtup ys => cases m with
        | zero => unfold D.dat at h; cases h
        | succ m => exact eqvs_py xs ys (by unfold D.dat at g; exact g) (by unfold D.dat at h; exact h)
      | _ => first | rfl | (unfold D.dat at h; cases h)
  | n, m, .wtup xs, e, g, h => by
    cases n with
    | zero => unfold D.dat at g; cases g
    | succ n =>
      cases e with
      | tup ys => cases m with
        | zero => unfold D.dat at h; cases h
        | succ m => exact eqvs_py xs ys (by unfold D.dat at g; exact g) (by unfold D.dat at h; exact h)
      | wtup ys => cases m with
        | zero => unfold D.dat at h; cases h
        | succ m => exact eqvs_py xs ys (by unfold D.dat at g; exact g) (by unfold D.dat at h; exact h)
      | _ => first | rfl | (unfold D.dat at h; cases h)
  | n, m, .lst xs, e, g, h => by
    cases n with
    | zero => unfold D.dat at g; cases g
    | succ n =>
      cases e with
      | lst ys => cases m with
        | zero => unfold D.dat at h; cases h
        | succ m => exact eqvs_py xs ys (by unfold D.dat at g; exact g) (by unfold D.dat at h; exact h)
      | _ => first | rfl | (unfold D.dat at h; cases h)
  | _, _, .dic _ _, e, h, _ => by unfold D.dat at h; cases h
  | _, _, .ins _ _, e, h, _ => by unfold D.dat at h; cases h
  | _, _, .cell _, e, h, _ => by unfold D.dat at h; cases h
theorem eqvs_py : ∀ {n m : Nat} (d e : List D), D.dats n d = true → D.dats m e = true → PyData.eqvAll (toPys d) (toPys e) = D.eqvs d e
  | _, _, [], e, _, _ => by cases e <;> rfl
  | n, m, x :: r, e, g, h => by
    cases e with
    | nil => rfl
    | cons y s =>
      unfold D.dats at g h
      rw [Bool.and_eq_true] at g h
      have h1 := eqv_py x y g.1 h.1
      have h2 := eqvs_py r s g.2 h.2
      show (PyData.eqv (toPy x) (toPy y) && PyData.eqvAll (toPys r) (toPys s)) = (x.eqv y && D.eqvs r s)
      rw [h1, h2]
end
theorem shaped_of {d : PyData} {n : Nat} (h : d.canLay0 = true) (k : d.depth ≤ n) (hn : n ≤ 64) : SeqAt.shaped d = true := by
  unfold SeqAt.shaped
  rw [h, Bool.true_and]
  exact decide_eq_true (Nat.le_trans k hn)
/-- a value as data, a cell's content too -/
theorem dp_still {T : Nam} {ι : List Addr} {G H : Hp} {μ : Store} (R : RelH T ι G μ H) {v : V} {d e : D} (r : RepD T ι G v d) (h : still μ d = some e) {n : Nat} (hd : e.dat n = true) : Dp T.K H v (toPy e) ∧ (toPy e).canLay0 = true ∧ (toPy e).depth ≤ n := by
  cases r with
  | cell hi =>
    rename_i a i
    cases hc : μ[i]? with
    | none => simp only [still, hc] at h; cases h
    | some c =>
      have hca := R.cel i a c hi hc
      cases hca with
      | dead => simp only [still, hc] at h; cases h
      | lst h1 h2 h3 =>
        simp only [still, hc] at h
        cases h
        cases n with
        | zero => unfold D.dat at hd; cases hd
        | succ n =>
          obtain ⟨a, b, c⟩ := dps_of R.fz (n := n) h3 (by unfold D.dat at hd; exact hd)
          refine ⟨?_, ?_, ?_⟩
          · unfold toPy; exact .lst (.inl (.inl h2)) a
          · unfold toPy PyData.canLay0; exact b
          · unfold toPy PyData.depth; omega
      | dicK h1 h2 h3 => simp only [still, hc] at h; cases h; unfold D.dat at hd; cases hd
      | dicT h1 h2 h3 => simp only [still, hc] at h; cases h; unfold D.dat at hd; cases hd
      | ldicK h1 h2 h3 => simp only [still, hc] at h; cases h
      | ldicT h1 h2 h3 => simp only [still, hc] at h; cases h
      | clo _ _ _ _ _ _ _ => simp only [still, hc] at h; cases h
      | ins h1 h2 h3 => simp only [still, hc] at h; cases h; unfold D.dat at hd; cases hd
  | non => cases h; exact dp_of (ι := ι) R.fz .non hd
  | bl b => cases h; exact dp_of (ι := ι) R.fz (.bl b) hd
  | int b => cases h; exact dp_of (ι := ι) R.fz (.int b) hd
  | str b => cases h; exact dp_of (ι := ι) R.fz (.str b) hd
  | tup a b => cases h; exact dp_of R.fz (.tup a b) hd
  | wtup a b => cases h; exact dp_of R.fz (.wtup a b) hd
  | lst a b => cases h; exact dp_of R.fz (.lst a b) hd
  | dicK a b => cases h; exact dp_of R.fz (.dicK a b) hd
  | dicT a b => cases h; exact dp_of R.fz (.dicT a b) hd
  | ins a b => cases h; exact dp_of R.fz (.ins a b) hd
theorem eqS_inv {μ : Store} {d e : D} {b : Bool} (h : eqS0 μ d e = some b) : ∃ d' e', still μ d = some d' ∧ still μ e = some e' ∧ d'.dat 60 = true ∧ e'.dat 60 = true ∧ b = d'.eqv e' := by
  unfold eqS0 at h
  cases h1 : still μ d with
  | none => rw [h1] at h; cases h
  | some d' => cases h2 : still μ e with
    | none => rw [h1, h2] at h; cases h
    | some e' =>
      rw [h1, h2] at h
      simp only at h
      split at h
      · rename_i hd
        rw [Bool.and_eq_true] at hd
        cases h
        exact ⟨d', e', rfl, rfl, hd.1, hd.2, rfl⟩
      · cases h
end Co

set_option linter.all false
set_option maxRecDepth 100000
set_option Elab.async false
/-! Co7: comparisons. -/
namespace Co
open PySem L2
variable {q : Cq} {sc : Scope} {N : List Str} {W : WX} {X : Cx}
def oCmp : CmpOp → Option CmpO
  | .Lt => some .lt
  | .LtE => some .le
  | .Gt => some .gt
  | .GtE => some .ge
  | .Eq => some .eq
  | .NotEq => some .ne
  | .In => some .isin
  | .NotIn => some .notin
  | .Is => some .is
  | .IsNot => some .isnt
/-- a rule for a comparison, as a value and as a test; two in a chain are rules of operators -/
def CmpX (X : Cx) (op : CmpOp) (a b : Expr) (R : R2) : Prop := ∀ ta tb pos, PE X a ta → PE X b tb → plE b = true → PE X (.Compare a [op] [b] pos) (tOp R ta tb) ∧ PT X (.Compare a [op] [b] pos) (tTest (tOp R ta tb))
theorem cmpx_op {op : CmpOp} {R : R2} (h : OpR X (compareOp op) R) (a b : Expr) : CmpX X op a b R := fun ta tb pos ha hb hp =>
  ⟨pe_cmpR h ha hb (pl_mark hp op), pt_cmpR h ha hb (pl_mark hp op)⟩
/-- what a rule of a comparison is worth -/
def Cmp2 (q : Cq) (μ : Store) (R : R2) (d e : D) (b : Bool) : Prop := ∀ (v y : V) (ι : List Addr) (G H : Hp) (Q : VK), RelH q.T ι G μ H → RepD q.T ι G v d → RepD q.T ι G y e → Q (.bl b) H → R v y H Q
theorem key_at {T : Nam} {ι : List Addr} {G H : Hp} {μ : Store} (R : RelH T ι G μ H) {v y : V} {d e : D} {t : Bool} {ds : List (D × D)} (r : RepD T ι G v d) (r2 : RepD T ι G y e) (h : dicOf μ d = some (t, ds)) (hk : keyB t e = true) :
    ∃ a o, v = .ref a ∧ DGet H a y o ∧ (match kfind ds e with
      | some x => ∃ u, o = some u ∧ RepD T ι G u x
      | none => o = none) := by
  obtain ⟨a, rfl, ⟨rfl, kvs, h1, h2⟩ | ⟨rfl, kvs, h1, h2⟩⟩ := R.dicOf r h
  · obtain ⟨k, rfl, rfl, _⟩ := key_of r2 hk
    refine ⟨a, _, rfl, .inl ⟨kvs, k, h1, rfl, rfl⟩, ?_⟩
    exact h2.find k
  · cases r2 with
    | tup e1 l =>
      obtain ⟨k, rfl, rfl, _⟩ := keys_of l hk
      refine ⟨a, _, rfl, .inr ⟨kvs, k, _, h1, rfl, R.fz.tup e1, rfl⟩, ?_⟩
      exact h2.find k
    | _ => cases hk
theorem flat_v {T : Nam} {ι : List Addr} {G : Hp} {v : V} {d : D} (r : RepD T ι G v d) (h : d.flat = true) : flatV v = true := by
  cases r <;> first | rfl | exact Bool.noConfusion h
theorem flat_vs {T : Nam} {ι : List Addr} {G : Hp} : ∀ {v : List V} {d : List D}, RepL T ι G v d → d.all D.flat = true → v.all flatV = true
  | _, _, .nil, _ => rfl
  | _, _, .cons h r, e => by
    rw [List.all_cons, Bool.and_eq_true] at e ⊢
    exact ⟨flat_v h e.1, flat_vs r e.2⟩
theorem flat_eq {T : Nam} {ι : List Addr} {G : Hp} {v y : V} {d e : D} (r : RepD T ι G v d) (r2 : RepD T ι G y e) (h : d.flat = true) (h2 : e.flat = true) : eqV v y = d.eqv e := by
  cases r <;> first | exact Bool.noConfusion h | (cases r2 <;> first | exact Bool.noConfusion h2 | rfl | skip)
theorem flat_in {T : Nam} {ι : List Addr} {G : Hp} {y : V} {e : D} (r2 : RepD T ι G y e) (h2 : e.flat = true) : ∀ {v : List V} {d : List D}, RepL T ι G v d → d.all D.flat = true → inV y v = d.any fun x => x.eqv e
  | _, _, .nil, _ => rfl
  | _, _, .cons h r, k => by
    rw [List.all_cons, Bool.and_eq_true] at k
    have ih := flat_in r2 h2 r k.2
    unfold inV at ih ⊢
    rw [List.any_cons, List.any_cons, ih, flat_eq h r2 k.1 h2]
theorem any_py {n m : Nat} {e : D} (he : e.dat m = true) : ∀ {xs : List D}, D.dats n xs = true → ((toPys xs).any fun z => PyData.eqv z (toPy e)) = xs.any fun x => x.eqv e
  | [], _ => rfl
  | x :: r, h => by
    unfold D.dats at h
    rw [Bool.and_eq_true] at h
    unfold toPys
    rw [List.any_cons, List.any_cons, any_py he h.2, eqv_py x e h.1 he]
/-- what «in» finds -/
theorem in_op (hu : X.A.units + 100 < cLine) (hK : X.K = q.T.K) {neg : Bool} {d e : D} {μ : Store} {b : Bool} (h : inS μ d e = some b) (ea eb : Expr) :
    ∃ R, CmpX X (if neg then .NotIn else .In) ea eb R ∧ Cmp2 q μ R d e (if neg then !b else b) := by
  unfold inS at h
  cases hd : dicOf μ e with
  | some p =>
    obtain ⟨t, kvs⟩ := p
    rw [hd] at h
    simp only at h
    split at h
    · rename_i hk
      cases h
      have main : ∀ (v y : V) (ι : List Addr) (G H : Hp) (Q : VK), RelH q.T ι G μ H → RepD q.T ι G v d → RepD q.T ι G y e → ∃ a o, y = .ref a ∧ DGet H a v o ∧ o.isSome = (kfind kvs d).isSome := fun v y ι G H Q R r1 r2 => by
        obtain ⟨a, o, h1, h2, h3⟩ := key_at R r2 r1 hd hk
        refine ⟨a, o, h1, h2, ?_⟩
        cases hf : kfind kvs d with
        | none => simp only [hf] at h3; subst h3; rfl
        | some x => simp only [hf] at h3; obtain ⟨u, h4, _⟩ := h3; subst h4; rfl
      cases neg with
      | false => exact ⟨fun v y H Q => ∃ a o, y = .ref a ∧ DGet H a v o ∧ Q (.bl o.isSome) H, fun ta tb pos ha hb hp => ⟨pe_cmp (pc_din (by omega) ha hb) (pl_mark hp _), pt_cmp (pc_din (by omega) ha hb) (pl_mark hp _)⟩, fun v y ι G H Q R r1 r2 hq => by
          obtain ⟨a, o, h1, h2, h3⟩ := main v y ι G H Q R r1 r2
          exact ⟨a, o, h1, h2, by rw [h3]; exact hq⟩⟩
      | true => exact ⟨fun v y H Q => ∃ a o, y = .ref a ∧ DGet H a v o ∧ Q (.bl (!o.isSome)) H, fun ta tb pos ha hb hp => ⟨pe_cmp (pc_dnotin (by omega) ha hb) (pl_mark hp _), pt_cmp (pc_dnotin (by omega) ha hb) (pl_mark hp _)⟩, fun v y ι G H Q R r1 r2 hq => by
          obtain ⟨a, o, h1, h2, h3⟩ := main v y ι G H Q R r1 r2
          exact ⟨a, o, h1, h2, by rw [h3]; exact hq⟩⟩
    · cases h
  | none =>
    rw [hd] at h
    simp only at h
    have tupc : ∀ xs : List D, (d.flat && xs.all D.flat) = true → b = (xs.any fun x => x.eqv d) → (∀ (y : V) (ι : List Addr) (G H : Hp), RelH q.T ι G μ H → RepD q.T ι G y e → ∃ a vs, y = .ref a ∧ SqT q.T.K H a vs ∧ RepL q.T ι G vs xs) → ∃ R, CmpX X (if neg then .NotIn else .In) ea eb R ∧ Cmp2 q μ R d e (if neg then !b else b) := fun xs hf hbv hy => by
      rw [Bool.and_eq_true] at hf
      have go : Cmp2 q μ (rIn X.K neg) d e (if neg then !b else b) := fun v y ι G H Q R r1 r2 hq => by
        obtain ⟨a, vs, h1, h2, h3⟩ := hy y ι G H R r2
        refine ⟨a, vs, h1, .inr (by rw [hK]; exact h2), flat_v r1 hf.1, flat_vs h3 hf.2, ?_⟩
        rw [flat_in r1 hf.1 h3 hf.2, ← hbv]
        exact hq
      cases neg with
      | false => exact ⟨_, cmpx_op op_in_seq _ _, go⟩
      | true => exact ⟨_, cmpx_op op_notIn_seq _ _, go⟩
    have lstc : ∀ xs : List D, lstOf μ e = some xs → (d.dat 60 && D.dats 59 xs) = true → b = (xs.any fun x => x.eqv d) → ∃ R, CmpX X (if neg then .NotIn else .In) ea eb R ∧ Cmp2 q μ R d e (if neg then !b else b) := fun xs hl hf hbv => by
      rw [Bool.and_eq_true] at hf
      have pre : ∀ (v y : V) (ι : List Addr) (G H : Hp), RelH q.T ι G μ H → RepD q.T ι G v d → RepD q.T ι G y e → Dp X.K H v (toPy d) ∧ Dp X.K H y (.list (toPys xs)) ∧ SeqAt.shaped (toPy d) = true ∧ SeqAt.shaped (.list (toPys xs)) = true ∧ ((toPys xs).any fun z => PyData.eqv z (toPy d)) = b := fun v y ι G H R r1 r2 => by
        obtain ⟨a, vs, h1, h2, h3⟩ := R.lstOf r2 hl
        obtain ⟨p1, p2, p3⟩ := dp_of R.fz r1 hf.1
        obtain ⟨s1, s2, s3⟩ := dps_of R.fz h3 hf.2
        refine ⟨by rw [hK]; exact p1, by rw [hK, h1]; exact .lst (.inl h2) s1, shaped_of p2 p3 (by decide), shaped_of (n := 60) (by unfold PyData.canLay0; exact s2) (by unfold PyData.depth; omega) (by decide), ?_⟩
        rw [any_py hf.1 hf.2, hbv]
      cases neg with
      | false => exact ⟨_, cmpx_op (op_inD (by omega)) _ _, fun v y ι G H Q R r1 r2 hq => by
          obtain ⟨h1, h2, h3, h4, h5⟩ := pre v y ι G H R r1 r2
          exact ⟨_, _, h1, h2, h3, h4, by rw [h5]; exact hq⟩⟩
      | true => exact ⟨_, cmpx_op (op_notInD (by omega)) _ _, fun v y ι G H Q R r1 r2 hq => by
          obtain ⟨h1, h2, h3, h4, h5⟩ := pre v y ι G H R r1 r2
          exact ⟨_, _, h1, h2, h3, h4, by rw [h5]; exact hq⟩⟩
    split at h
    · -- signs in a text
      rename_i x y
      cases h
      cases neg with
      | false => exact ⟨_, cmpx_op op_in_str _ _, fun v y' ι G H Q R r1 r2 hq => by cases r1; cases r2; exact ⟨_, _, rfl, rfl, hq⟩⟩
      | true => exact ⟨_, cmpx_op op_notin_str _ _, fun v y' ι G H Q R r1 r2 hq => by cases r1; cases r2; exact ⟨_, _, rfl, rfl, hq⟩⟩
    · split at h
      · rename_i hf
        cases h
        exact tupc _ hf rfl fun y ι G H R r => by cases r with | tup e1 l => exact ⟨_, _, rfl, .inl (.inl (R.fz.tup e1)), l⟩
      · cases h
    · split at h
      · rename_i hf
        cases h
        exact tupc _ hf rfl fun y ι G H R r => by cases r with | wtup e1 l => exact ⟨_, _, rfl, R.fz.sqt e1, l⟩
      · cases h
    · split at h
      · rename_i xs hl
        split at h
        · rename_i hf
          cases h
          exact lstc xs hl hf rfl
        · cases h
      · cases h
/-- a list against the empty one -/
def rNil (neg : Bool) : R2 := fun x y H Q => ∃ l b xs, x = .ref l ∧ y = .ref b ∧ Rd H l (.lst xs) ∧ Rd H b (.lst []) ∧ Q (.bl (if neg then !xs.isEmpty else xs.isEmpty)) H
theorem op_nil (hu : X.A.units < cLine) (neg : Bool) : OpR X (compareOp (if neg then .NotEq else .Eq)) (rNil neg) := by
  intro pins s σ H x y v u Q I rx ry h
  obtain ⟨l, b, xs, rfl, rfl, hH, hB, q⟩ := h
  cases rx
  cases ry
  obtain ⟨z, its, n, r, e⟩ := hH.ok I.hok
  obtain ⟨z2, its2, n2, r2, e2⟩ := hB.ok I.hok
  have e0 : its2 = [] := by
    have := r2.length
    cases its2 with
    | nil => rfl
    | cons _ _ => simp at this
  subst e0
  have i1 : s.heap.IsList l its.toArray := ⟨_, e, rfl, n, rfl⟩
  have i2 : s.heap.IsList b ([] : List Value).toArray := ⟨_, e2, rfl, n2, rfl⟩
  have hl := r.length
  cases xs with
  | nil =>
    have e1 : its = [] := by
      cases its with
      | nil => rfl
      | cons _ _ => simp at hl
    subst e1
    cases neg with
    | false => exact SeqAt.eq_listAt (e := fun _ => true) i1 i2 rfl hu (fun j h1 _ => by simp at h1) ⟨.bl true, H, I, rfl, q⟩
    | true => exact SeqAt.RcNeAt.lists (e := fun _ => true) i1 i2 rfl hu (fun j h1 _ => by simp at h1) _ _ _ _ ⟨.bl false, H, I, rfl, q⟩
  | cons x xs =>
    have hs : (its.toArray.size != ([] : List Value).toArray.size) = true := by
      cases its with
      | nil => simp at hl
      | cons _ _ => simp
    cases neg with
    | false => exact SeqAt.eq_list_lengthsAt i1 i2 hs hu ⟨.bl false, H, I, rfl, q⟩
    | true => exact SeqAt.RcNeAt.lists_lengths i1 i2 hs hu _ _ _ _ ⟨.bl true, H, I, rfl, q⟩
theorem eqS_cases {μ : Store} {d e : D} {c : Bool} (h : eqS μ d e = some c) : eqS0 μ d e = some c ∨ ∃ xs, lstOf μ d = some xs ∧ lstOf μ e = some [] ∧ c = xs.isEmpty := by
  unfold eqS at h
  cases h0 : eqS0 μ d e with
  | some b => rw [h0] at h; exact .inl h
  | none =>
    rw [h0] at h
    simp only at h
    split at h
    · rename_i xs h1 h2
      cases h
      exact .inr ⟨xs, h1, h2, rfl⟩
    · cases h
theorem cmp_op (hu : X.A.units + 100 < cLine) (hK : X.K = q.T.K) {o : CmpO} {op : CmpOp} (ho : oCmp op = some o) {d e : D} {μ : Store} {b : Bool} (h : cmpS μ o d e = some b) (ea eb : Expr) : ∃ R, CmpX X op ea eb R ∧ Cmp2 q μ R d e b := by
  have nilc : ∀ (neg : Bool) xs, lstOf μ d = some xs → lstOf μ e = some [] → Cmp2 q μ (rNil neg) d e (if neg then !xs.isEmpty else xs.isEmpty) := fun neg xs h1 h2 v y ι G H Q R r1 r2 hq => by
    obtain ⟨a, vs, e1, e2, e3⟩ := R.lstOf r1 h1
    obtain ⟨b, ws, f1, f2, f3⟩ := R.lstOf r2 h2
    cases f3
    refine ⟨a, b, vs, e1, f1, e2, f2, ?_⟩
    have : vs.isEmpty = xs.isEmpty := by cases e3 <;> rfl
    rw [this]
    exact hq
  have eqc : ∀ c, eqS0 μ d e = some c → (Cmp2 q μ (rEqD X.K) d e c) ∧ Cmp2 q μ (rNeD X.K) d e (!c) := fun c hc => by
    obtain ⟨d', e', s1, s2, d1, d2, rfl⟩ := eqS_inv hc
    have pre : ∀ (v y : V) (ι : List Addr) (G H : Hp), RelH q.T ι G μ H → RepD q.T ι G v d → RepD q.T ι G y e → Dp X.K H v (toPy d') ∧ Dp X.K H y (toPy e') ∧ SeqAt.shaped (toPy d') = true ∧ SeqAt.shaped (toPy e') = true ∧ PyData.eqv (toPy d') (toPy e') = d'.eqv e' := fun v y ι G H R r1 r2 => by
      obtain ⟨p1, p2, p3⟩ := dp_still R r1 s1 d1
      obtain ⟨o1, o2, o3⟩ := dp_still R r2 s2 d2
      exact ⟨by rw [hK]; exact p1, by rw [hK]; exact o1, shaped_of p2 p3 (by decide), shaped_of o2 o3 (by decide), eqv_py _ _ d1 d2⟩
    refine ⟨fun v y ι G H Q R r1 r2 hq => ?_, fun v y ι G H Q R r1 r2 hq => ?_⟩
    all_goals
      obtain ⟨h1, h2, h3, h4, h5⟩ := pre v y ι G H R r1 r2
      exact ⟨_, _, h1, h2, h3, h4, by rw [h5]; exact hq⟩
  have intc : ∀ (f : Int → Int → Bool), (∀ i j : Int, d = .int i → e = .int j → b = f i j) → (∃ i j : Int, d = .int i ∧ e = .int j) → Cmp2 q μ (rI0 fun i j => .bl (f i j)) d e b := fun f hf ⟨i, j, h1, h2⟩ v y ι G H Q R r1 r2 hq => by
    subst h1 h2
    cases r1
    cases r2
    exact ⟨i, j, rfl, rfl, by rw [hf i j rfl rfl] at hq; exact hq⟩
  cases op <;> simp only [oCmp, Option.some.injEq] at ho <;> subst ho
  · rw [cmpS_eq] at h
    rcases eqS_cases h with h | ⟨xs, h1, h2, rfl⟩
    · exact ⟨_, cmpx_op (op_eqD (by omega)) _ _, (eqc b h).1⟩
    · exact ⟨_, cmpx_op (op_nil (by omega) false) _ _, nilc false xs h1 h2⟩
  · rw [cmpS_ne] at h
    cases hc : eqS μ d e with
    | none => rw [hc] at h; cases h
    | some c =>
      rw [hc] at h
      cases h
      rcases eqS_cases hc with hc | ⟨xs, h1, h2, rfl⟩
      · exact ⟨_, cmpx_op (op_neD (by omega)) _ _, (eqc c hc).2⟩
      · exact ⟨_, cmpx_op (op_nil (by omega) true) _ _, nilc true xs h1 h2⟩
  · cases d <;> cases e <;> simp only [cmpS, reduceCtorEq, Option.some.injEq] at h
    exact ⟨_, cmpx_op op_lt _ _, intc (fun i j => decide (i < j)) (fun i j h1 h2 => by cases h1; cases h2; exact h.symm) ⟨_, _, rfl, rfl⟩⟩
  · cases d <;> cases e <;> simp only [cmpS, reduceCtorEq, Option.some.injEq] at h
    exact ⟨_, cmpx_op op_le _ _, intc (fun i j => decide (i ≤ j)) (fun i j h1 h2 => by cases h1; cases h2; exact h.symm) ⟨_, _, rfl, rfl⟩⟩
  · cases d <;> cases e <;> simp only [cmpS, reduceCtorEq, Option.some.injEq] at h
    exact ⟨_, cmpx_op op_gt _ _, intc (fun i j => decide (j < i)) (fun i j h1 h2 => by cases h1; cases h2; exact h.symm) ⟨_, _, rfl, rfl⟩⟩
  · cases d <;> cases e <;> simp only [cmpS, reduceCtorEq, Option.some.injEq] at h
    exact ⟨_, cmpx_op op_ge _ _, intc (fun i j => decide (j ≤ i)) (fun i j h1 h2 => by cases h1; cases h2; exact h.symm) ⟨_, _, rfl, rfl⟩⟩
  · -- is
    cases e with
    | non =>
      rw [cmpS_isN] at h
      cases h
      refine ⟨_, cmpx_op op_isN _ _, fun v y ι G H Q R r1 r2 hq => ?_⟩
      cases r2
      refine ⟨rfl, ?_⟩
      have e : decide (v = V.non) = decide (d = D.non) := by cases r1 <;> simp
      rw [e]
      exact hq
    | bl b2 => cases d with
      | bl b1 =>
        cases h
        exact ⟨_, cmpx_op op_isBl _ _, fun v y ι G H Q R r1 r2 hq => by cases r1; cases r2; exact ⟨b1, b2, rfl, rfl, hq⟩⟩
      | _ => simp only [cmpS, reduceCtorEq] at h
    | _ => cases d <;> simp only [cmpS, reduceCtorEq] at h
  · cases e with
    | non =>
      rw [cmpS_ntN] at h
      cases h
      refine ⟨_, cmpx_op op_notN _ _, fun v y ι G H Q R r1 r2 hq => ?_⟩
      cases r2
      refine ⟨rfl, ?_⟩
      have e : decide (v = V.non) = decide (d = D.non) := by cases r1 <;> simp
      rw [e]
      exact hq
    | bl b2 => cases d with
      | bl b1 =>
        cases h
        exact ⟨_, cmpx_op op_notBl _ _, fun v y ι G H Q R r1 r2 hq => by cases r1; cases r2; exact ⟨b1, b2, rfl, rfl, hq⟩⟩
      | _ => simp only [cmpS, reduceCtorEq] at h
    | _ => cases d <;> simp only [cmpS, reduceCtorEq] at h
  · rw [cmpS_in] at h
    exact in_op (neg := false) hu hK h ea eb
  · rw [cmpS_ni] at h
    cases hc : inS μ d e with
    | none => rw [hc] at h; cases h
    | some c =>
      rw [hc] at h
      cases h
      exact in_op (neg := true) hu hK hc ea eb
end Co

set_option linter.all false
set_option maxRecDepth 100000
set_option Elab.async false
/-! Co8: parts of expressions. -/
namespace Co
open PySem L2
variable {q : Cq} {sc : Scope} {N : List Str} {W : WX} {X : Cx}
theorem RepL.vals {T : Nam} {ι : List Addr} {G : Hp} {dv : List D} (h : dv.all D.lit = true) : RepL T ι G (dv.map dV) dv := by
  induction dv with
  | nil => exact .nil
  | cons d r ih =>
    rw [List.all_cons, Bool.and_eq_true] at h
    exact .cons (rep_lit h.1) (ih h.2)
/-- a def of the table runs -/
theorem run_fnW (x : XOk q sc N W X) {f : Nat} {pins : List (Addr × Obj)} {σ : L2.St} {H : Hp} {s : Shared} {Q : VK} {us : List Value} {vs : List V} {ds dv : List D} {ι : List Addr} {G : Hp} {μ : Store} (hla : q.T.lam f = none) (hd : dflB q f dv = true)
    (I : Inv X pins σ H s) (r : Vals vs us) (R : RelH q.T ι G μ H) (rl : RepL q.T ι G vs ds) (c : Ct q.T W σ ι G (q.call f (ds ++ dv) μ) Q) : wpAny (model X.prog X.w) X.A (call (.ref (q.fA f)) us) (EP X pins σ Q) X.xe s := by
  obtain ⟨fd, ps, F, B, kp⟩ := (x.fns f hla ⟨_, _, c.ok⟩).ex
  obtain ⟨dsv, hv, hb⟩ := B dv hd
  have hl : dv.all D.lit = true := by
    unfold dflB at hd
    simp only [Bool.and_eq_true] at hd
    exact hd.2
  refine run_fnSD (E := WE W) F (x.room.mono (Nat.le_succ _)) hb hv (passAt x.tk σ) I r ⟨ι, G, μ, ds ++ dv, R, rl.append (RepL.vals hl), ?_⟩
  have e : ∀ r : RD, Ct q.T W σ ι G r Q → Ct q.T (fun cls dd _ H => WE W σ cls dd H) [] ι G r Q := fun r hr => by
    cases r with
    | ok d μ => exact hr
    | ex y μ => exact hr
    | bad => exact hr
  exact e _ c
theorem kp_of (x : XOk q sc N W X) {f : Nat} (hla : q.T.lam f = none) (h : ∃ ds μ, q.call f ds μ ≠ .bad) : PySem.W.keepIn X.K (.ref (q.fA f)) = true := by
  obtain ⟨_, _, _, _, k⟩ := (x.fns f hla h).ex
  exact k
/-- f(..), the value of f known -/
theorem call_args (x : XOk q sc N W X) {es : List Expr} {as : CE} {pos p : Pos} {y : Str} {fv : Value} {F : List D → Store → RD} (hg : glB sc y = true) (hdb : dbgB y = false) (hp : es.all plE = true) (hn : es = [] → as = .anil) (ha : PA X es (tA q W as))
    (hk : PySem.W.keepIn X.K fv = true) (hm : X.mg y = some fv)
    (run : ∀ (pins : List (Addr × Obj)) (σ : L2.St) (H : Hp) (s : Shared) (Q : VK) (us : List Value) (vs : List V) (ds : List D) (ι : List Addr) (G : Hp) (μ : Store), Inv X pins σ H s → Vals vs us → RelH q.T ι G μ H → RepL q.T ι G vs ds → Ct q.T W σ ι G (F ds μ) Q →
      wpAny (model X.prog X.w) X.A (call fv us) (EP X pins σ Q) X.xe s) {pins : List (Addr × Obj)} {s : Shared} {σ : L2.St} {H : Hp} {Q : VK} (I : Inv X pins σ H s) {env : Env} {μ : Store} {ι : List Addr} {G : Hp}
    (R : RelH q.T ι G μ H) (S : RelS q.T ι G env σ) (c : Ct q.T W σ ι G ((evA q.P q.call as env μ).bind F) Q) :
    wpAny (model X.prog X.w) X.A (eval (.Call (.Name y p) es [] pos) X.env) (EP X pins σ Q) X.xe s := by
  have hA : tA q W as σ H (fun vs H' => ∃ (ι' : List Addr) (G' : Hp) (μ' : Store) (ds : List D), RelH q.T ι' G' μ' H' ∧ RepL q.T ι' G' vs ds ∧ Ct q.T W σ ι' G' (F ds μ') Q) :=
    ⟨env, μ, ι, G, R, S, GCt.bind c fun ds μ1 vs ι1 G1 H1 _ g r d c1 => ⟨ι1, G1, μ1, ds, r, d, c1⟩⟩
  cases es with
  | nil =>
    refine wpAny_Call_Name_kw (ld_glob I (x.gl hg) hm ?_ (dbg1 hdb))
    rw [hn rfl] at c
    exact PySem.W.callWith_K0 I.kIn hk (run pins σ H s Q [] [] [] ι G μ I .nil R .nil c)
  | cons e es =>
    refine wpAny_Call_Name_kw (ld_glob I (x.gl hg) hm ?_ (dbg1 hdb))
    rw [List.all_cons, Bool.and_eq_true] at hp
    refine PySem.W.callWith_K (h₀ := X.base) I.ok.mod.kin hk (thn (ha.run pos pins s σ H _ I hA) fun us s1 ⟨vs, H1, I1, r, ι1, G1, μ1, ds, R1, d1, c1⟩ => ⟨I1.kIn, ?_⟩) (pl_star hp.1 es _) (pl_any hp.2)
    exact run pins σ H1 s1 Q us vs ds ι1 G1 μ1 I1 r R1 d1 c1
/-- behind a call, the callee's cells gone -/
theorem leave_ct {T : Nam} {W : WX} {σ : L2.St} {ι : List Addr} {G H : Hp} {μ : Store} {r : RD} {Q : VK} (R0 : RelH T ι G μ H) (c : Ct T W σ ι G (leave μ r) Q) : Ct T W σ ι G r Q := by
  cases r with
  | ok d μ' =>
    intro v ι' G' H' g R rv
    have c' : Ct T W σ ι G (if d.lt μ.length && keeps μ.length μ μ' then .ok d (μ'.take μ.length) else .ok d μ') Q := c
    split at c'
    · rename_i h
      rw [Bool.and_eq_true] at h
      obtain ⟨g2, R2⟩ := R0.leave g R h.2
      exact c' v _ _ _ g2 R2 (rv.back h.1)
    · exact c' v _ _ _ g R rv
  | ex x μ' =>
    intro cls dd ι' G' H' g R rx
    have c' : Ct T W σ ι G (if D.ltf μ.length x.fs && keeps μ.length μ μ' then .ex x (μ'.take μ.length) else .ex x μ') Q := c
    split at c'
    · rename_i h
      rw [Bool.and_eq_true] at h
      obtain ⟨g2, R2⟩ := R0.leave g R h.2
      obtain ⟨h1, h2⟩ := rx
      refine c' cls dd _ _ _ g2 R2 ⟨h1, ?_⟩
      rcases h2 with h2 | ⟨d, vs, e1, e2, e3⟩
      · exact .inl h2
      · exact .inr ⟨d, vs, e1, e2, e3.back h.1⟩
    · exact c' cls dd _ _ _ g R rx
  | bad => exact c
/-- an own class called -/
theorem run_makeW (x : XOk q sc N W X) {cl : Nat} {fz : Bool} {pins : List (Addr × Obj)} {σ : L2.St} {H : Hp} {s : Shared} {Q : VK} {us : List Value} {vs : List V} {ds dv : List D} {ι : List Addr} {G : Hp} {μ : Store} (hd : ∀ f, q.P.init.getD cl none = some f → dflB q f dv = true)
    (I : Inv X pins σ H s) (r : Vals vs us) (R : RelH q.T ι G μ H) (rl : RepL q.T ι G vs ds) (c : Ct q.T W σ ι G (makeS q.P q.call cl fz (ds ++ dv) μ) Q) : wpAny (model X.prog X.w) X.A (call (.ref (q.T.cA cl)) us) (EP X pins σ Q) X.xe s := by
  unfold makeS at c
  cases hi : q.P.init.getD cl none with
  | none => rw [hi] at c; exact c.elim
  | some f =>
    rw [hi] at c
    simp only at c
    have M := x.lk.mak cl f hi
    rw [← x.eK] at M
    have hb0 : q.call f (.cell μ.length :: (ds ++ dv)) (μ ++ [.ins cl []]) ≠ .bad := fun e => by rw [e] at c; exact c
    obtain ⟨fd, ps, F, B, kp⟩ := (x.fns f (x.lk.nli cl f hi) ⟨_, _, hb0⟩).ex
    have hd := hd f hi
    obtain ⟨dsv, hv, hb⟩ := B dv hd
    have hl : dv.all D.lit = true := by
      unfold dflB at hd
      simp only [Bool.and_eq_true] at hd
      exact hd.2
    have nx : H (s.heap.objs.size + 1) = none := I.hok.fresh (Nat.le_succ _)
    have ndx : H s.heap.objs.size = none := I.hok.fresh (Nat.le_refl _)
    have nex : s.heap.objs.size ≠ s.heap.objs.size + 1 := Nat.ne_of_lt (Nat.lt_succ_self _)
    have R1 := R.other (.own (s.heap.objs.size + 1)) ndx
    have nx1 : upd H s.heap.objs.size (.own (s.heap.objs.size + 1)) (s.heap.objs.size + 1) = none := by rw [upd_ne nex.symm]; exact nx
    have R2 := R1.cell (c := .ins cl []) (o := .ins (q.T.cA cl) s.heap.objs.size []) nx1 (.ins (R.fz.free nx) upd_same .nil)
    have gcell := Grow.cell ι G (s.heap.objs.size + 1)
    have hlen : (ι ++ [s.heap.objs.size + 1])[μ.length]? = some (s.heap.objs.size + 1) := by rw [← R.len]; simp
    have hq : spC q.T q.call f (.ref (s.heap.objs.size + 1) :: (vs ++ dv.map dV)) (upd (upd H s.heap.objs.size (.own (s.heap.objs.size + 1))) (s.heap.objs.size + 1) (.ins (q.T.cA cl) s.heap.objs.size [])) (fun v H2 => v = .non ∧ Q (.ref (s.heap.objs.size + 1)) H2) (WE W σ) := by
      refine ⟨_, _, _, _, R2, .cons (.cell hlen) ((rl.append (RepL.vals hl)).mono gcell), ?_⟩
      cases hr : q.call f (.cell μ.length :: (ds ++ dv)) (μ ++ [.ins cl []]) with
      | bad => exact absurd hr hb0
      | ex y μ' =>
        rw [hr] at c
        simp only at c
        have c2 := leave_ct R c
        intro cls dd ι' G' H' g R' rx
        exact c2 cls dd ι' G' H' (gcell.trans g) R' rx
      | ok d μ' =>
        rw [hr] at c
        intro v ι' G' H' g R' rv
        cases rv with
        | non =>
          refine ⟨rfl, ?_⟩
          simp only at c
          have ha : ι'[μ.length]? = some (s.heap.objs.size + 1) := g.ix _ _ hlen
          cases fz with
          | false => exact c (.ref _) ι' G' H' (gcell.trans g) R' (.cell ha)
          | true =>
            simp only [if_true] at c
            cases ht : thaw μ.length μ' with
            | none => rw [ht] at c; exact c.elim
            | some p =>
              obtain ⟨d2, μ2⟩ := p
              rw [ht] at c
              simp only at c
              obtain ⟨G2, g2, R3, hr3⟩ := R'.thaw ht
              exact leave_ct R c (.ref _) ι' G2 H' ((gcell.trans g).trans g2) R3 (hr3 _ ha)
        | _ => exact c.elim
    have I2 := Inv.made (C := q.T.cA cl) I
    have r2 : Vals (V.ref (s.heap.objs.size + 1) :: (vs ++ dv.map dV)) (Value.ref (s.heap.objs.size + 1) :: (us ++ dsv)) := .cons rfl (r.append hv)
    have hlen2 : (Value.ref (s.heap.objs.size + 1) :: us ++ dsv).length = ps.length := by
      have e := r2.length
      rw [F.len _ _ _ _ hq] at e
      exact e.symm
    refine wpAny_call (make_map (f := q.fA f) I.kIn M.makes M.init (beq_iff_eq.mp M.fn) (codeAny_mono (F.run _ X.stack _ _ ⟨Value.ref (s.heap.objs.size + 1) :: us, []⟩ (Value.ref (s.heap.objs.size + 1) :: (us ++ dsv)) _ _ (WE W σ) (x.room.make _ us [])
      (I2.env0.make _ us []) (hb _ (Value.ref (s.heap.objs.size + 1) :: us) I2.kIn hlen2) r2 hq) fun r s' hq' => ?_))
    cases r with
    | error e => exact passAt x.tk σ pins _ _ e s' I2 hq'
    | ok fl =>
      cases fl with
      | ret u =>
        obtain ⟨v, H', I3, rv, ev, q3⟩ := I2.after hq'
        subst ev
        exact ⟨rv, ⟨V.ref (s.heap.objs.size + 1), H', I3, rfl, q3⟩⟩
      | next => exact False.elim hq'
      | brk => exact False.elim hq'
      | cont => exact False.elim hq'
end Co

set_option linter.all false
set_option maxRecDepth 100000
set_option Elab.async false
/-! Co9: fields, methods. -/
namespace Co
open PySem L2
variable {q : Cq} {sc : Scope} {N : List Str} {W : WX} {X : Cx}
theorem few_ok {es : List Expr} {pos : Pos} {env : PySem.Env} (hp : es.all plE = true) (hf : es.length < 30) : ((backTo pos (starEach es env)).all (fun x => !x.1) && (backToKw pos (keywordEach [] env)).all (fun x => x.1.isSome) && decide (es.length + ([] : List Keyword).length + (if ([] : List Keyword).isEmpty then 0 else 1) < 30)) = true := by
  rw [pl_all hp]
  show (true && true && decide (es.length + 0 + 0 < 30)) = true
  simpa using hf
theorem meth_eval {o : Expr} {m : Str} {apos pos : Pos} {es : List Expr} {env : PySem.Env} (hs : noSup o = true) (hp : es.all plE = true) (hf : es.length < 30) (hl : (apos.endLine == pos.line) = true) :
    eval (.Call (.Attribute o m apos) es [] pos) env = (do
      let ov ← eval o env
      standAt apos.atName
      let (f, first) ← holding [ov] (getMethod ov m (do return (← importBound o env).getD true))
      callWith pos f first (backTo pos (starEach es env)) (backToKw pos (keywordEach [] env))) := by
  show (do
    let ov ← attributeBase o m env (eval o env)
    standAt apos.atName
    methodCall o m apos pos env ov (es.length + ([] : List Keyword).length) (backTo pos (starEach es env)) (backToKw pos (keywordEach [] env))) = _
  rw [att_base hs]
  have e1 : methodCallForm (es.length + ([] : List Keyword).length) (backTo pos (starEach es env)) (backToKw pos (keywordEach [] env)) = true := by
    unfold methodCallForm
    rw [pl_all hp]
    show (true && true && decide (es.length + 0 + 0 < 30)) = true
    simpa using hf
  unfold methodCall
  rw [e1]
  unfold calleeOf methodCallPos
  rw [hl]
  rfl
theorem se_fld {o : CE} {e : Expr} {f : Nat} {pos : Pos} (x : XOk q sc N W X) (h : PE X e (tE q W o)) (hs : noSup e = true) : PE X (.Attribute e (q.T.fN f) pos) (tE q W (.fld o f)) := by
  refine PE.dyn fun σ H Q ⟨env, μ, ι, G, R, S, c⟩ => ⟨_, pe_fld h (att_base hs _ _ _), env, μ, ι, G, R, S, ?_⟩
  have c' : Ct q.T W σ ι G ((evE q.P q.call o env μ).bind fun d μ => fldS q.P.fok μ (insOf μ d) f) Q := c
  refine GCt.bind c' fun d μ1 v ι1 G1 H1 _ g r rv c1 => ?_
  cases hi : insOf μ1 d with
  | none => rw [hi] at c1; exact c1.elim
  | some p =>
    obtain ⟨cl, fs⟩ := p
    rw [hi] at c1
    have c2 : Ct q.T W σ ι1 G1 (if fokB q.P.fok cl f then ofO (fget fs f) μ1 else .bad) Q := c1
    split at c2
    · rename_i hk
      obtain ⟨d2, hd, c3⟩ := c2.ofO
      obtain ⟨a, dx, vs, rfl, ha, hf⟩ := r.insOf rv hi
      obtain ⟨k1, k2⟩ := x.lk.at_ cl f hk
      have hfind := RepF.find x.lk.inj f hf
      rw [hd] at hfind
      obtain ⟨u, hu, ru⟩ := hfind
      exact ⟨a, _, dx, vs, u, rfl, ha, by rw [x.eK]; exact k1, by rw [x.eK]; exact k2, hu, ct_val c3 r ru⟩
    · exact c2.elim
theorem lookup_none {T : Nam} {ι : List Addr} {G : Hp} {m : Str} (hm : ∀ g, m ≠ T.fN g) : ∀ {vs : List (Str × V)} {ds : List (Nat × D)}, RepF T ι G vs ds → vs.lookup m = none
  | _, _, .nil => rfl
  | _, _, .cons (f := f) _ r => by
    have e : (m == T.fN f) = false := beq_eq_false_iff_ne.mpr (hm f)
    simp [List.lookup, e, lookup_none hm r]
theorem se_meth {o as : CE} {e : Expr} {es : List Expr} {m : Nat} {apos pos : Pos} (x : XOk q sc N W X) (h : PE X e (tE q W o)) (ha : PA X es (tA q W as)) (hs : noSup e = true) (hp : es.all plE = true) (hf : es.length < 30) (hl : (apos.endLine == pos.line) = true) (hn : es = [] → as = .anil) (hd0 : ∀ f, dflB q f [] = true) :
    PE X (.Call (.Attribute e (mN q m) apos) es [] pos) (tE q W (.meth o m as)) := by
  refine ⟨fun pins s σ H Q I ⟨env, μ, ι, G, R, S, c⟩ => ?_⟩
  have c' : Ct q.T W σ ι G ((evE q.P q.call o env μ).bind fun d μ => match methOf q.P μ m d with
    | some f => (evA q.P q.call as env μ).bind fun ds μ => q.call f (d :: ds) μ
    | none => .bad) Q := c
  have h0 : tE q W o σ H (fun v H' => ∃ (ι' : List Addr) (G' : Hp) (μ' : Store) (d : D) (f : Nat) (a C dx : Addr) (fs : List (Str × V)), RelH q.T ι' G' μ' H' ∧ RelS q.T ι' G' env σ ∧ RepD q.T ι' G' v d ∧ Ct q.T W σ ι' G' ((evA q.P q.call as env μ').bind fun ds μ => q.call f (d :: ds) μ) Q ∧
      v = .ref a ∧ H' a = some (.ins C dx fs) ∧ Cls X.K C ∧ Meth X.K C (mN q m) (q.fA f) ∧ fs.lookup (mN q m) = none ∧ q.T.lam f = none) := by
    refine ⟨env, μ, ι, G, R, S, GCt.bind c' fun d μ1 v ι1 G1 H1 _ g r rv c1 => ?_⟩
    cases hi : insOf μ1 d with
    | none => simp only [methOf, hi] at c1; exact c1.elim
    | some p =>
      obtain ⟨cl, fs⟩ := p
      cases hm : (q.P.mth.getD cl []).lookup m with
      | none => simp only [methOf, hi, hm] at c1; exact c1.elim
      | some f =>
        simp only [methOf, hi, hm] at c1
        obtain ⟨a, dx, vs, e1, e2, e3⟩ := r.insOf rv hi
        obtain ⟨k1, k2, k3⟩ := x.lk.mth cl m f hm
        exact ⟨ι1, G1, μ1, d, f, a, _, dx, vs, r, S.mono g, rv, c1, e1, e2, by rw [x.eK]; exact k1, by rw [x.eK]; exact k2, lookup_none k3 e3, x.lk.nlm cl m f hm⟩
  refine PySem.W.methodCall_KW (thn (h.run pins s σ H _ I h0) fun u s1 ⟨v, H1, I1, rx, ι1, G1, μ1, d, f, a, C, dx, fs, R1, S1, rv, c1, ev, ea, k1, k2, k3, hla⟩ => ?_) (meth_eval hs hp hf hl)
  subst ev
  obtain rfl : u = Value.ref a := rx
  refine getmeth_ok I1 ea k1 k2 k3 ?_
  have hA : tA q W as σ H1 (fun vs H' => ∃ (ι' : List Addr) (G' : Hp) (μ' : Store) (ds : List D), RelH q.T ι' G' μ' H' ∧ RepD q.T ι' G' (.ref a) d ∧ RepL q.T ι' G' vs ds ∧ Ct q.T W σ ι' G' (q.call f (d :: ds) μ') Q) :=
    ⟨env, μ1, ι1, G1, R1, S1, GCt.bind c1 fun ds μ2 vs ι2 G2 H2 _ g r rl c2 => ⟨ι2, G2, μ2, ds, r, rv.mono g, rl, c2⟩⟩
  have run : ∀ (H2 : Hp) (s2 : Shared) (us : List Value) (vs : List V) (ds : List D) (ι2 : List Addr) (G2 : Hp) (μ2 : Store), Inv X pins σ H2 s2 → Vals vs us → RelH q.T ι2 G2 μ2 H2 → RepD q.T ι2 G2 (.ref a) d → RepL q.T ι2 G2 vs ds → Ct q.T W σ ι2 G2 (q.call f (d :: ds) μ2) Q →
      wpAny (model X.prog X.w) X.A (call (.ref (q.fA f)) (.ref a :: us)) (EP X pins σ Q) X.xe s2 := fun H2 s2 us vs ds ι2 G2 μ2 I2 r R2 rd rl c2 =>
    run_fnW (dv := []) x hla (hd0 f) I2 (show Vals (V.ref a :: vs) (Value.ref a :: us) from .cons rfl r) R2 (.cons rd rl) (by rw [List.append_nil]; exact c2)
  cases es with
  | nil =>
    rw [hn rfl] at c1
    exact PySem.W.callWith_K0 (first := [.ref a]) I1.kIn k2.kp (run H1 s1 [] [] [] ι1 G1 μ1 I1 .nil R1 rv .nil c1)
  | cons e1 es =>
    rw [List.all_cons, Bool.and_eq_true] at hp
    exact PySem.W.callWith_K (first := [.ref a]) (h₀ := X.base) I.ok.mod.kin k2.kp (thn (ha.run pos pins s1 σ H1 _ I1 hA) fun us s2 ⟨vs, H2, I2, r, ι2, G2, μ2, ds, R2, rd, rl, c2⟩ => ⟨I2.kIn, run H2 s2 us vs ds ι2 G2 μ2 I2 r R2 rd rl c2⟩) (pl_star hp.1 es _) (pl_any hp.2)
/-! ### methods of built-in things -/
/-- a rule of the kind tBM, told by the evaluator -/
theorem bm_tbm {o as : CE} {b : BM} {T : String} {r : V → List V → Hp → VK → Prop} {σ : L2.St} {H : Hp} {Q : VK} {env : Env} {μ : Store} {ι : List Addr} {G : Hp} (R : RelH q.T ι G μ H) (S : RelS q.T ι G env σ)
    (c : Ct q.T W σ ι G (evE q.P q.call (.bm b o as) env μ) Q)
    (ty : ∀ d μ1, bmTy μ1 b d = true → ∀ v ι G H, RelH q.T ι G μ1 H → RepD q.T ι G v d → tyV X.K T v H)
    (op : ∀ d ds μ2, ∀ v vs ι G H, RelH q.T ι G μ2 H → RepD q.T ι G v d → RepL q.T ι G vs ds → Ct q.T W σ ι G (bmS μ2 b d ds) Q → r v vs H Q) :
    tBM X.K T r (tE q W o) (tA q W as) σ H Q := by
  have c' : Ct q.T W σ ι G ((evE q.P q.call o env μ).bind fun d μ => if bmTy μ b d then (evA q.P q.call as env μ).bind fun ds μ => bmS μ b d ds else .bad) Q := c
  refine ⟨env, μ, ι, G, R, S, GCt.bind c' fun d μ1 v ι1 G1 H1 he g r1 rv c1 => ?_⟩
  split at c1
  · rename_i hb
    exact ⟨ty d μ1 hb v ι1 G1 H1 r1 rv, env, μ1, ι1, G1, r1, S.mono g, GCt.bind c1 fun ds μ2 vs ι2 G2 H2 he2 g2 r2 rl c2 => op d ds μ2 v vs ι2 G2 H2 r2 (rv.mono g2) rl c2⟩
  · exact c1.elim
theorem ty_list (hK : X.K = q.T.K) {d : D} {μ : Store} (h : (lstOf μ d).isSome = true) (v : V) (ι : List Addr) (G H : Hp) (R : RelH q.T ι G μ H) (r : RepD q.T ι G v d) : tyV X.K "list" v H := by
  obtain ⟨xs, hx⟩ := Option.isSome_iff_exists.mp h
  obtain ⟨a, vs, rfl, h1, _⟩ := R.lstOf r hx
  exact .inl ⟨rfl, vs, .inl h1⟩
theorem cell_lst {T : Nam} {ι : List Addr} {G H : Hp} {μ : Store} (R : RelH T ι G μ H) {v : V} {i : Nat} (r : RepD T ι G v (.cell i)) {xs : List D} (h : μ[i]? = some (.lst xs)) : ∃ a vs, v = .ref a ∧ ι[i]? = some a ∧ G a = none ∧ H a = some (.lst vs) ∧ RepL T ι G vs xs := by
  cases r with
  | cell hi => cases R.cel i _ _ hi h with
    | lst h1 h2 h3 => exact ⟨_, _, rfl, hi, h1, h2, h3⟩
/-- a list's cell is written, None comes back -/
theorem ct_write {T : Nam} {W : WX} {σ : L2.St} {ι : List Addr} {G H : Hp} {μ : Store} {Q : VK} {i : Nat} {a : Addr} {c c' : Cell} {o : HO} (R : RelH T ι G μ H) (e1 : ι[i]? = some a) (e2 : μ[i]? = some c) (hd : c.free = true) (hc : CellAt T ι G (upd H a o) a c')
    (k : Ct T W σ ι G (.ok .non (μ.set i c')) Q) : Q .non (upd H a o) := ct_val k (R.write e1 e2 hd hc) .non
def bmName : BM → Str
  | .append => "append"
  | .extend => "extend"
  | .clear => "clear"
  | .get => "get"
  | .split => "split"
  | .join => "join"
  | .startswith => "startswith"
  | .strip => "strip"
  | .partition => "partition"
  | .index => "index"
  | .setdefault _ => "setdefault"
  | .pop => "pop"
  | .zfill => "zfill"
/-- what stands around a method's call -/
structure MB (X : Cx) (e : Expr) (es : List Expr) (apos pos : Pos) : Prop where
  hs : noSup e = true
  hp : es.all plE = true
  hf : es.length < 30
  hl : (apos.endLine == pos.line) = true
theorem MB.m1 {e a : Expr} {m : Str} {apos pos : Pos} (b : MB X e [a] apos pos) : M1 X e m apos a pos := by
  have h := b.hp
  rw [List.all_cons, Bool.and_eq_true] at h
  exact ⟨att_base b.hs _ _ _, few_ok b.hp b.hf, b.hl, by rw [pl_star h.1]; rfl⟩
theorem MB.m2 {e a c : Expr} {m : Str} {apos pos : Pos} (b : MB X e [a, c] apos pos) : M2 X e m apos a c pos := by
  have h := b.hp
  rw [List.all_cons, List.all_cons, Bool.and_eq_true, Bool.and_eq_true] at h
  exact ⟨att_base b.hs _ _ _, few_ok b.hp b.hf, b.hl, by rw [pl_star h.1, pl_star h.2.1]; rfl⟩
theorem bm_append {o as : CE} {e : Expr} {es : List Expr} {apos pos : Pos} (x : XOk q sc N W X) (h : PE X e (tE q W o)) (ha : PA X es (tA q W as)) (b : MB X e es apos pos) (ne : es ≠ []) : PE X (.Call (.Attribute e "append" apos) es [] pos) (tE q W (.bm .append o as)) := by
  cases es with
  | nil => exact absurd rfl ne
  | cons e1 es =>
    have hp := b.hp
    rw [List.all_cons, Bool.and_eq_true] at hp
    refine PE.dyn fun σ H Q ⟨env, μ, ι, G, R, S, c⟩ => ⟨_, pe_bm PySem.F.plainAttrs_list PySem.F.slot_list_append PySem.F.type_list_append mt_append h ha (att_base b.hs _ _ _) (few_ok b.hp b.hf) b.hl (pl_star hp.1 es _) (pl_any hp.2), bm_tbm R S c (fun d μ1 hb => ty_list x.eK hb) fun d ds μ2 v vs ι2 G2 H2 r2 rv rl c2 => ?_⟩
    cases d with
    | cell i => cases rl with
      | cons rd rl => cases rl with
        | nil =>
          cases hc : μ2[i]? with
          | none => simp only [bmS, hc] at c2; exact c2.elim
          | some cc => cases cc with
            | lst xs =>
              obtain ⟨a, us, rfl, e1, e2, e3, e4⟩ := cell_lst r2 rv hc
              simp only [bmS, hc] at c2
              split at c2
              · rename_i hz
                refine ⟨a, us, _, rfl, rfl, e3, ?_, ct_write r2 e1 hc rfl (.lst e2 upd_same (e4.append (.cons rd .nil))) c2⟩
                have := flip_len hz
                rw [e4.length]
                omega
              · exact c2.elim
            | _ => simp only [bmS, hc] at c2; exact c2.elim
        | cons _ _ => exact c2.elim
      | nil => exact c2.elim
    | _ => exact c2.elim
/-- arguments, each by itself -/
inductive Args (X : Cx) (q : Cq) (W : WX) : CE → List Expr → Prop
  | nil : Args X q W .anil []
  | cons {a r : CE} {e : Expr} {es : List Expr} : PE X e (tE q W a) → plE e = true → Args X q W r es → Args X q W (.acons a r) (e :: es)
theorem Args.pl {as : CE} {es : List Expr} (A : Args X q W as es) : es.all plE = true := by
  induction A with
  | nil => rfl
  | cons _ h _ ih => rw [List.all_cons, h, ih]; rfl
theorem Args.nl {as : CE} (A : Args X q W as []) : as = .anil := by cases A; rfl
theorem Args.nl' {as : CE} {es : List Expr} (A : Args X q W as es) (h : es = []) : as = .anil := by subst h; exact A.nl
theorem Args.pa {as : CE} {es : List Expr} (A : Args X q W as es) : PA X es (tA q W as) := by
  induction A with
  | nil => exact PA.dyn fun σ H Q ⟨env, μ, ι, G, R, S, c⟩ => ⟨_, pa_nil, c [] ι G H (Grow.refl ι G) R .nil⟩
  | cons h hp A ih =>
    rename_i a r e es
    refine PA.dyn fun σ H Q ⟨env, μ, ι, G, R, S, c⟩ => ⟨_, pa_cons h ih (pl_star hp es _), env, μ, ι, G, R, S, ?_⟩
    have c' : CtA q.T W σ ι G ((evE q.P q.call a env μ).bind fun d μ => (evA q.P q.call r env μ).bind fun ds μ => .ok (d :: ds) μ) Q := c
    refine GCt.bind c' fun d μ1 v ι1 G1 H1 _ g r1 rv c1 => ⟨env, μ1, ι1, G1, r1, S.mono g, GCt.bind c1 fun ds μ2 vs ι2 G2 H2 _ g2 r2 rl c2 => ?_⟩
    exact c2 _ ι2 G2 H2 (Grow.refl _ _) r2 (.cons (rv.mono g2) rl)
/-- a rule for texts' methods -/
theorem ty_str {b : BM} (hb : ∀ μ d, bmTy μ b d = true → ∃ x, d = .str x) {d : D} {μ : Store} (h : bmTy μ b d = true) (v : V) (ι : List Addr) (G H : Hp) (R : RelH q.T ι G μ H) (r : RepD q.T ι G v d) : tyV X.K "str" v H := by
  obtain ⟨x, rfl⟩ := hb μ d h
  cases r
  exact rfl
theorem bm_get {o as : CE} {e : Expr} {es : List Expr} {apos pos : Pos} (x : XOk q sc N W X) (h : PE X e (tE q W o)) (A : Args X q W as es) (b : MB X e es apos pos) (hle : es.length ≤ 2) : es ≠ [] → PE X (.Call (.Attribute e "get" apos) es [] pos) (tE q W (.bm .get o as)) := by
  intro ne
  have isd : ∀ (d : D) (μ : Store), bmTy μ .get d = true → ∀ v ι G H, RelH q.T ι G μ H → RepD q.T ι G v d → ∃ a, v = .ref a ∧ IsD H a := fun d μ hb v ι G H R r => by
    obtain ⟨⟨t, kvs⟩, hd⟩ := Option.isSome_iff_exists.mp hb
    obtain ⟨a, rfl, ⟨_, k, h1, _⟩ | ⟨_, k, h1, _⟩⟩ := R.dicOf r hd
    · exact ⟨a, rfl, .inl ⟨k, h1⟩⟩
    · exact ⟨a, rfl, .inr ⟨k, h1⟩⟩
  cases A with
  | nil => exact absurd rfl ne
  | cons h1 p1 A => cases A with
    | nil =>
      rename_i a1 e1
      refine PE.dyn fun σ H Q ⟨env, μ, ι, G, R, S, c⟩ => ⟨_, pe_dget1 x.hu1 h h1 b.m1, env, μ, ι, G, R, S, ?_⟩
      have c' : Ct q.T W σ ι G ((evE q.P q.call o env μ).bind fun d μ => if bmTy μ .get d then ((evE q.P q.call a1 env μ).bind fun d μ => .ok [d] μ).bind fun ds μ => bmS μ .get d ds else .bad) Q := c
      refine GCt.bind c' fun d μ1 v ι1 G1 H1 _ g r1 rv c1 => ?_
      split at c1
      · rename_i hb
        obtain ⟨a, ev, hi⟩ := isd d μ1 hb v ι1 G1 H1 r1 rv
        refine ⟨a, ev, hi, env, μ1, ι1, G1, r1, S.mono g, ?_⟩
        have c2 : Ct q.T W σ ι1 G1 ((evE q.P q.call a1 env μ1).bind fun k μ => bmS μ .get d [k]) Q := by
          cases he : evE q.P q.call a1 env μ1 with
          | ok k μ2 => rw [he] at c1; exact c1
          | ex k μ2 => rw [he] at c1; exact c1
          | bad => rw [he] at c1; exact c1
        refine GCt.bind c2 fun k μ2 y ι2 G2 H2 _ g2 r2 ry c3 => ?_
        cases hd : dicOf μ2 d with
        | none => simp only [bmS, hd] at c3; exact c3.elim
        | some p =>
          obtain ⟨t, kvs⟩ := p
          simp only [bmS, hd] at c3
          split at c3
          · rename_i hk
            obtain ⟨a2, o2, e2, hg, hv⟩ := key_at r2 (rv.mono g2) ry hd hk
            rw [ev] at e2
            cases e2
            refine ⟨o2, hg, ?_⟩
            cases hf : kfind kvs k with
            | none =>
              simp only [hf] at hv c3
              subst hv
              exact ct_val c3 r2 .non
            | some z =>
              simp only [hf] at hv c3
              obtain ⟨u, rfl, ru⟩ := hv
              exact ct_val c3 r2 ru
          · exact c3.elim
      · exact c1.elim
    | cons h2 p2 A => cases A with
      | nil =>
        rename_i a1 e1 a2 e2
        refine PE.dyn fun σ H Q ⟨env, μ, ι, G, R, S, c⟩ => ⟨_, pe_dget2 x.hu1 h h1 h2 b.m2, env, μ, ι, G, R, S, ?_⟩
        have c' : Ct q.T W σ ι G ((evE q.P q.call o env μ).bind fun d μ => if bmTy μ .get d then ((evE q.P q.call a1 env μ).bind fun d μ => ((evE q.P q.call a2 env μ).bind fun d μ => .ok [d] μ).bind fun ds μ => .ok (d :: ds) μ).bind fun ds μ => bmS μ .get d ds else .bad) Q := c
        refine GCt.bind c' fun d μ1 v ι1 G1 H1 _ g r1 rv c1 => ?_
        split at c1
        · rename_i hb
          obtain ⟨a, ev, hi⟩ := isd d μ1 hb v ι1 G1 H1 r1 rv
          refine ⟨a, ev, hi, env, μ1, ι1, G1, r1, S.mono g, ?_⟩
          have c2 : Ct q.T W σ ι1 G1 ((evE q.P q.call a1 env μ1).bind fun k μ => (evE q.P q.call a2 env μ).bind fun z μ => bmS μ .get d [k, z]) Q := by
            cases he : evE q.P q.call a1 env μ1 with
            | ok k μ2 =>
              rw [he] at c1
              simp only [Res.bind_ok] at c1 ⊢
              cases he2 : evE q.P q.call a2 env μ2 with
              | ok k μ2 => rw [he2] at c1; exact c1
              | ex k μ2 => rw [he2] at c1; exact c1
              | bad => rw [he2] at c1; exact c1
            | ex k μ2 => rw [he] at c1; exact c1
            | bad => rw [he] at c1; exact c1
          refine GCt.bind c2 fun k μ2 y ι2 G2 H2 _ g2 r2 ry c3 => ⟨env, μ2, ι2, G2, r2, (S.mono g).mono g2, GCt.bind c3 fun z μ3 w ι3 G3 H3 _ g3 r3 rw' c4 => ?_⟩
          cases hd : dicOf μ3 d with
          | none => simp only [bmS, hd] at c4; exact c4.elim
          | some p =>
            obtain ⟨t, kvs⟩ := p
            simp only [bmS, hd] at c4
            split at c4
            · rename_i hk
              obtain ⟨a2, o2, e2, hg, hv⟩ := key_at r3 ((rv.mono g2).mono g3) (ry.mono g3) hd hk
              rw [ev] at e2
              cases e2
              refine ⟨o2, hg, ?_⟩
              cases hf : kfind kvs k with
              | none =>
                simp only [hf] at hv c4
                subst hv
                exact ct_val c4 r3 rw'
              | some z =>
                simp only [hf] at hv c4
                obtain ⟨u, rfl, ru⟩ := hv
                exact ct_val c4 r3 ru
            · exact c4.elim
        · exact c1.elim
      | cons _ _ _ =>
        -- three arguments: never
        simp at hle
end Co

set_option linter.all false
set_option maxRecDepth 100000
set_option Elab.async false
/-! Cl9: a method that gets a new closure. -/
namespace Co
open PySem L2
theorem frees_mem {names : List (Str × NameKind)} {n : Str} (h : (n, NameKind.free) ∈ names) : n ∈ frees names [] := by
  have := cloFrom_has (cells := []) (acc := []) h
  have h2 := clo_keys (cells := []) (names := names) (acc := [])
  rw [List.map_nil] at h2
  rw [← h2]
  exact List.mem_map.mpr ⟨_, this, rfl⟩
inductive SlotN (N : List Str) (sc : Scope) : List Nat → List Str → Prop
  | nil : SlotN N sc [] []
  | cons {j : Nat} {y : Str} {js : List Nat} {ys : List Str} : N[j]? = some y → sc.names.lookup y = some .cell → SlotN N sc js ys → SlotN N sc (j :: js) (y :: ys)
section
variable {q : Cq} {sc : Scope} {N : List Str} {W : WX} {X : Cx}
theorem slots_of {T : Nam} {ι : List Addr} {G : Hp} {env : Env} {σ : L2.St} (hN : X.N = N) (hS : X.env.scope = sc) (S : RelS T ι G env σ) {js : List Nat} {ys : List Str} (h : SlotN N sc js ys) : ∀ {ds : List D}, js.mapM (getV env) = some ds → ∃ vs, Slots X σ js ys vs ∧ RepL T ι G vs ds := by
  induction h with
  | nil =>
    intro ds e
    cases e
    exact ⟨[], .nil, .nil⟩
  | @cons j y js ys h1 h2 _ ih =>
    intro ds e
    rw [List.mapM_cons] at e
    cases e1 : getV env j with
    | none => rw [e1] at e; cases e
    | some d =>
      cases e2 : js.mapM (getV env) with
      | none => rw [e1, e2] at e; cases e
      | some r =>
        rw [e1, e2] at e
        cases e
        obtain ⟨vs, s1, s2⟩ := ih e2
        obtain ⟨v, k1, k2⟩ := S.at_ j d (getV_some e1)
        exact ⟨v :: vs, .cons (by rw [hN]; exact h1) (by rw [hS]; exact h2) k1 s1, .cons k2 s2⟩
theorem SlotN.kind {js : List Nat} {ys : List Str} (h : SlotN N sc js ys) : ∀ y ∈ ys, sc.names.lookup y = some .cell := by
  induction h with
  | nil => intro y hy; cases hy
  | cons h1 h2 _ ih =>
    intro y hy
    rcases List.mem_cons.mp hy with z | z
    · rw [z]; exact h2
    · exact ih y z
theorem se_mlam {o : CE} {e bd : Expr} {m lf : Nat} {caps : List Nat} {L : LamD} {ps : Arguments} {lsc : Scope} {lpos apos pos : Pos} (x : XOk q sc N W X) {ql : Str} (hq : q.lm = some ql) (hL : q.T.lam lf = some L) (eL : L = ⟨ql, ps, bd, lsc, frees lsc.names []⟩)
    (hnd : (frees lsc.names []).Nodup) (hdef : defaultsOf ps X.env = ([], [])) (hsl : SlotN N sc caps (frees lsc.names [])) (hd0 : ∀ f, dflB q f [] = true) (h : PE X e (tE q W o)) (hs : noSup e = true) (hl : (apos.endLine == pos.line) = true) :
    PE X (.Call (.Attribute e (mN q m) apos) [.Lambda ps bd lsc lpos] [] pos) (tE q W (.mlam o m lf caps)) := by
  obtain ⟨hfn, hst, hfr, qu, k, p, hk, tb, hm, hu⟩ := x.lmk ql hq
  subst qu
  refine ⟨fun pins s σ H Q I ⟨env, μ, ι, G, R, S, c⟩ => ?_⟩
  have c' : Ct q.T W σ ι G ((evE q.P q.call o env μ).bind fun d μ => match methOf q.P μ m d, caps.mapM (getV env) with
    | some g, some cs => lamS q.call g d lf cs μ
    | _, _ => .bad) Q := c
  have h0 : tE q W o σ H (fun v H' => ∃ (ι' : List Addr) (G' : Hp) (μ' : Store) (d : D) (f : Nat) (a C dx : Addr) (fs : List (Str × V)) (ds : List D), RelH q.T ι' G' μ' H' ∧ RelS q.T ι' G' env σ ∧ RepD q.T ι' G' v d ∧ caps.mapM (getV env) = some ds ∧ Ct q.T W σ ι' G' (lamS q.call f d lf ds μ') Q ∧
      v = .ref a ∧ H' a = some (.ins C dx fs) ∧ Cls X.K C ∧ Meth X.K C (mN q m) (q.fA f) ∧ fs.lookup (mN q m) = none ∧ q.T.lam f = none) := by
    refine ⟨env, μ, ι, G, R, S, GCt.bind c' fun d μ1 v ι1 G1 H1 _ g r rv c1 => ?_⟩
    cases hi : insOf μ1 d with
    | none => simp only [methOf, hi] at c1; exact c1.elim
    | some pr =>
      obtain ⟨cl, fs⟩ := pr
      cases hm : (q.P.mth.getD cl []).lookup m with
      | none => simp only [methOf, hi, hm] at c1; exact c1.elim
      | some f =>
        simp only [methOf, hi, hm] at c1
        cases hd : caps.mapM (getV env) with
        | none => rw [hd] at c1; exact c1.elim
        | some ds =>
          rw [hd] at c1
          obtain ⟨a, dx, vs, e1, e2, e3⟩ := r.insOf rv hi
          obtain ⟨k1, k2, k3⟩ := x.lk.mth cl m f hm
          exact ⟨ι1, G1, μ1, d, f, a, _, dx, vs, ds, r, S.mono g, rv, rfl, c1, e1, e2, by rw [x.eK]; exact k1, by rw [x.eK]; exact k2, lookup_none k3 e3, x.lk.nlm cl m f hm⟩
  refine PySem.W.methodCall_KW (thn (h.run pins s σ H _ I h0) fun u s1 ⟨v, H1, I1, rx, ι1, G1, μ1, d, f, a, C, dx, fs, ds, R1, S1, rv, hds, c1, ev, ea, k1, k2, k3, hla⟩ => ?_) (meth_eval hs rfl (by show 1 < 30; decide) hl)
  subst ev
  obtain rfl : u = Value.ref a := rx
  refine getmeth_ok I1 ea k1 k2 k3 ?_
  have hfree : ∀ y ∈ lsc.names, y.2 = .free → ∃ c, X.env.cells.lookup y.1 = some c := fun y hy e => I1.ok.has _ (.inl (by
    show X.env.scope.names.lookup y.1 = some .cell
    rw [x.eS]
    exact hsl.kind _ (frees_mem (by rw [← e]; exact hy))))
  have hcs : ∀ z ∈ cloFrom X.env.cells lsc.names [], X.env.cells.lookup z.1 = some z.2 := fun ⟨y, c⟩ hz => by
    rcases cloFrom_mem hz with z | ⟨z1, z2⟩
    · cases z
    · obtain ⟨c2, hc2⟩ := hfree _ z1 rfl
      have hc2 : X.env.cells.lookup y = some c2 := hc2
      show X.env.cells.lookup y = some c
      rw [z2, hc2]
      rfl
  have hkeys : (cloFrom X.env.cells lsc.names []).map (·.1) = frees lsc.names [] := by
    rw [clo_keys]
    rfl
  refine PySem.W.callWith_K (first := [.ref a]) (h₀ := X.base) I.ok.mod.kin k2.kp (PySem.Calls.spliced_cons (lam_new I1 tb hk hm hu R1.tb.tab hdef hfree fun fo c' pm ctv H2 s2 I2 hH hT hf nf nfr new hc => PySem.Calls.spliced_nil ?_)) (pl_star rfl [] _) (pl_any (es := []) rfl)
  refine ⟨I2.kIn, ?_⟩
  have nb : q.call f [d, .cell μ1.length] (μ1 ++ [.clo lf ds]) ≠ .bad := fun z => by
    unfold lamS at c1
    rw [z] at c1
    exact c1
  obtain ⟨fd, pn, F, B, kp⟩ := (x.fns f hla ⟨_, _, nb⟩).ex
  obtain ⟨dsv, hv, hb⟩ := B [] (hd0 f)
  cases hv
  obtain ⟨vs, sl, rl⟩ := slots_of x.eN x.eS S1 hsl hds
  obtain ⟨cf, cb⟩ := caps_of I2 hfn hst hfr hcs (by rw [hkeys]; exact sl)
  have nd := caps_nd I2 hcs (by rw [hkeys]; exact hnd)
  have bf : X.base.get? fo = none := by
    cases e : X.base.get? fo with
    | none => rfl
    | some o =>
      have := I1.bk fo o e
      rw [new] at this
      cases this
  subst eL
  exact mlam_call (L := ⟨X.env.qual ++ "<lambda>", ps, bd, lsc, frees lsc.names []⟩) (cs := cloFrom X.env.cells lsc.names []) (pm := pm) (c := c') (ctv := ctv) I2 (x.room.mono (Nat.le_succ _)) F hb (R1.tabs hm hH hT) hf nf nfr bf hc hL hkeys nd cf cb rl rv rfl c1
end
end Co

set_option linter.all false
set_option maxRecDepth 100000
set_option Elab.async false
/-! Co10: more methods. -/
namespace Co
open PySem L2
variable {q : Cq} {sc : Scope} {N : List Str} {W : WX} {X : Cx}
theorem mem_spl {S : List Nat} : ∀ (l : List Nat) (k : Nat) (acc : List Nat), ∀ p ∈ TL.spl S k acc l, ∀ c ∈ p, c ∈ acc ∨ c ∈ l
  | [], k, acc, p, hp, c, hc => by
    rw [TL.spl_nil, List.mem_singleton] at hp
    subst hp
    exact .inl hc
  | a :: r, k + 1, acc, p, hp, c, hc => by
    have h := mem_spl r k acc p hp c hc
    exact h.imp id (List.mem_cons_of_mem _)
  | a :: r, 0, acc, p, hp, c, hc => by
    cases e : TL.pre S (a :: r) with
    | true =>
      rw [TL.spl_hit e, List.mem_cons] at hp
      rcases hp with hp | hp
      · subst hp
        exact .inl hc
      · rcases mem_spl r _ [] p hp c hc with h | h
        · cases h
        · exact .inr (List.mem_cons_of_mem _ h)
    | false =>
      rw [TL.spl_miss e] at hp
      rcases mem_spl r _ _ p hp c hc with h | h
      · rcases List.mem_append.mp h with h | h
        · exact .inl h
        · rw [List.mem_singleton] at h
          exact .inr (by rw [h]; exact List.mem_cons_self)
      · exact .inr (List.mem_cons_of_mem _ h)
theorem ne_tl {y : Str} (h : (y.length == 0) = false) : TL.tl y ≠ [] := fun e => by
  have := TL.len_tl y
  rw [e] at this
  simp [this] at h
theorem strK_split {a b : Str} (h : strK a) (hb : (b.length == 0) = false) (hk : b.cps.all (· < 256) = true) : ∀ p ∈ Txt.split a b, strK p := by
  intro p hp c hc
  have e := TL.split_spl a b (ne_tl hb) (TL.kind_ok hk)
  have hm : TL.tl p ∈ (Txt.split a b).map TL.tl := List.mem_map_of_mem hp
  rw [e] at hm
  rcases mem_spl _ _ _ _ hm c hc with z | z
  · cases z
  · exact h c z
theorem RepL.strs {T : Nam} {ι : List Addr} {G : Hp} : ∀ {l : List Str}, (∀ x ∈ l, strK x) → RepL T ι G (l.map V.str) (l.map D.str)
  | [], _ => .nil
  | x :: r, h => .cons (.str (h x List.mem_cons_self)) (RepL.strs fun y hy => h y (List.mem_cons_of_mem _ hy))
theorem RepL.ints {T : Nam} {ι : List Addr} {G : Hp} : ∀ {l : List Int}, RepL T ι G (l.map V.int) (l.map D.int)
  | [] => .nil
  | x :: r => .cons (.int x) RepL.ints
theorem strs_of {T : Nam} {ι : List Addr} {G : Hp} : ∀ {v : List V} {d : List D} {l : List Str}, RepL T ι G v d → allStr d = some l → v = l.map V.str ∧ ∀ x ∈ l, strK x
  | _, _, _, .nil, h => by cases h; exact ⟨rfl, fun _ h => nomatch h⟩
  | _, _, _, .cons (d := d) hd r, h => by
    cases hd with
    | str k =>
      rename_i x
      unfold allStr at h
      cases e : allStr _ with
      | none => rw [e] at h; cases h
      | some m =>
        rw [e] at h
        cases h
        obtain ⟨h1, h2⟩ := strs_of r e
        exact ⟨by rw [h1]; rfl, fun y hy => (List.mem_cons.mp hy).elim (fun z => z ▸ k) (h2 y)⟩
    | _ => cases h
theorem ints_of {T : Nam} {ι : List Addr} {G : Hp} : ∀ {v : List V} {d : List D} {l : List Int}, RepL T ι G v d → allInt d = some l → v = l.map V.int
  | _, _, _, .nil, h => by cases h; rfl
  | _, _, _, .cons (d := d) hd r, h => by
    cases hd with
    | int i =>
      unfold allInt at h
      cases e : allInt _ with
      | none => rw [e] at h; cases h
      | some m =>
        rw [e] at h
        cases h
        rw [ints_of r e]
        rfl
    | _ => cases h
theorem mem_joinL {S : List Nat} : ∀ {l : List (List Nat)} {c : Nat}, c ∈ TL.joinL S l → c ∈ S ∨ ∃ p ∈ l, c ∈ p
  | [], c, h => by cases h
  | [p], c, h => .inr ⟨p, List.mem_singleton.mpr rfl, h⟩
  | p :: r :: s, c, h => by
    have h' : c ∈ p ++ (S ++ TL.joinL S (r :: s)) := h
    rcases List.mem_append.mp h' with z | z
    · exact .inr ⟨p, List.mem_cons_self, z⟩
    · rcases List.mem_append.mp z with z | z
      · exact .inl z
      · rcases mem_joinL z with z | ⟨x, hx, hc⟩
        · exact .inl z
        · exact .inr ⟨x, List.mem_cons_of_mem _ hx, hc⟩
theorem strK_join {a : Str} {l : List Str} (h : strK a) (hl : ∀ x ∈ l, strK x) : strK (Txt.join a l) := by
  intro c hc
  have e : (Txt.join a l).cps.toList = TL.joinL (TL.tl a) (l.map TL.tl) := by
    rw [TL.join_eq]
    exact TL.tl_join a l
  rw [e] at hc
  rcases mem_joinL hc with z | ⟨p, hp, z⟩
  · exact h c z
  · obtain ⟨x, hx, rfl⟩ := List.mem_map.mp hp
    exact hl x hx c z
theorem one_str {o as : CE} {b : BM} {name : Str} {id : String} {r : V → List V → Hp → VK → Prop} {e : Expr} {es : List Expr} {apos pos : Pos} (x : XOk q sc N W X) (h : PE X e (tE q W o)) (A : Args X q W as es) (mb : MB X e es apos pos) (ne : es ≠ [])
    (slot : Slot "str" name id) (hty : typeOf (.builtin id) = pure (.type "method_descriptor")) (hm : MtR X id r) (hb : ∀ μ d, bmTy μ b d = true → ∃ x, d = .str x)
    (op : ∀ (σ : L2.St) (Q : VK) d ds μ2 v vs ι G H, RelH q.T ι G μ2 H → RepD q.T ι G v d → RepL q.T ι G vs ds → Ct q.T W σ ι G (bmS μ2 b d ds) Q → r v vs H Q) : PE X (.Call (.Attribute e name apos) es [] pos) (tE q W (.bm b o as)) := by
  cases A with
  | nil => exact absurd rfl ne
  | cons h1 p1 A =>
    have A' := Args.cons h1 p1 A
    exact PE.dyn fun σ H Q ⟨env, μ, ι, G, R, S, c⟩ => ⟨_, pe_bm PySem.F.plainAttrs_str slot hty hm h A'.pa (att_base mb.hs _ _ _) (few_ok mb.hp mb.hf) mb.hl (pl_star p1 _ _) (pl_any A.pl), bm_tbm R S c (fun d μ1 => ty_str hb) fun d ds μ2 v vs ι2 G2 H2 => op σ Q d ds μ2 v vs ι2 G2 H2⟩
theorem bm_split {o as : CE} {e : Expr} {es : List Expr} {apos pos : Pos} (x : XOk q sc N W X) (h : PE X e (tE q W o)) (A : Args X q W as es) (mb : MB X e es apos pos) (ne : es ≠ []) : PE X (.Call (.Attribute e "split" apos) es [] pos) (tE q W (.bm .split o as)) := by
  refine one_str x h A mb ne PySem.F.slot_str_split PySem.F.type_str_split mt_split (fun μ d hb => by cases d <;> first | exact ⟨_, rfl⟩ | cases hb) fun σ Q d ds μ2 v vs ι G H R rv rl c => ?_
  cases rv with
  | str k1 => cases rl with
    | nil => exact c.elim
    | cons rd rl => cases rl with
      | cons _ _ => cases rd <;> exact c.elim
      | nil => cases rd with
        | str k2 =>
          rename_i a b
          have c' : Ct q.T W σ ι G (if !(b.length == 0) && b.cps.all (· < 256) && sz (a.length + 2) then .ok (.lst ((Txt.split a b).map D.str)) μ2 else .bad) Q := c
          split at c'
          · rename_i hz
            rw [Bool.and_eq_true, Bool.and_eq_true, Bool.not_eq_true'] at hz
            exact ⟨a, b, rfl, rfl, hz.1.1, flip_len hz.2, fun p hp => ct_new c' R _ hp fun G' g e => .lst (.inl e) (RepL.strs (strK_split k1 hz.1.1 hz.1.2))⟩
          · exact c'.elim
        | _ => exact c.elim
  | _ => exact c.elim
theorem bm_startswith {o as : CE} {e : Expr} {es : List Expr} {apos pos : Pos} (x : XOk q sc N W X) (h : PE X e (tE q W o)) (A : Args X q W as es) (mb : MB X e es apos pos) (ne : es ≠ []) : PE X (.Call (.Attribute e "startswith" apos) es [] pos) (tE q W (.bm .startswith o as)) := by
  refine one_str x h A mb ne PySem.F.slot_str_startswith PySem.F.type_str_startswith mt_startswith (fun μ d hb => by cases d <;> first | exact ⟨_, rfl⟩ | cases hb) fun σ Q d ds μ2 v vs ι G H R rv rl c => ?_
  cases rv with
  | str k1 => cases rl with
    | nil => exact c.elim
    | cons rd rl => cases rl with
      | cons _ _ => cases rd <;> exact c.elim
      | nil => cases rd with
        | str k2 => exact ⟨_, _, rfl, rfl, ct_val c R (.bl _)⟩
        | _ => exact c.elim
  | _ => exact c.elim
theorem bm_join {o as : CE} {e : Expr} {es : List Expr} {apos pos : Pos} (x : XOk q sc N W X) (h : PE X e (tE q W o)) (A : Args X q W as es) (mb : MB X e es apos pos) (ne : es ≠ []) : PE X (.Call (.Attribute e "join" apos) es [] pos) (tE q W (.bm .join o as)) := by
  refine one_str x h A mb ne PySem.F.slot_str_join PySem.F.type_str_join mt_join (fun μ d hb => by cases d <;> first | exact ⟨_, rfl⟩ | cases hb) fun σ Q d ds μ2 v vs ι G H R rv rl c => ?_
  cases rv with
  | str k1 => cases rl with
    | nil => exact c.elim
    | cons rd rl => cases rl with
      | cons _ _ => exact c.elim
      | nil =>
        rename_i a v1 d1
        cases hs : (seqOf μ2 d1).bind allStr with
        | none => simp only [bmS, hs] at c; exact c.elim
        | some xs =>
          simp only [bmS, hs] at c
          split at c
          · rename_i hz
            obtain ⟨ds, h1, h2⟩ := Option.bind_eq_some_iff.mp hs
            obtain ⟨p, us, rfl, h3, h4⟩ := R.seqOf rd h1
            obtain ⟨rfl, h6⟩ := strs_of h4 h2
            exact ⟨a, p, xs, rfl, rfl, by rw [x.eK]; exact h3, of_decide_eq_true hz, ct_val c R (.str (strK_join k1 h6))⟩
          · exact c.elim
  | _ => exact c.elim
theorem indexOf_at {d : D} {n : Nat} : ∀ {xs : List D} {j : Nat}, indexOf d xs = some j → (∃ x, xs[j]? = some x ∧ x.eqv d = true) ∧ ∀ m x, m < j → xs[m]? = some x → x.eqv d = false
  | [], j, h => by cases h
  | x :: r, j, h => by
    unfold indexOf at h
    split at h
    · rename_i hx
      cases h
      exact ⟨⟨x, rfl, hx⟩, fun m _ hm => absurd hm (Nat.not_lt_zero m)⟩
    · rename_i hx
      cases e : indexOf d r with
      | none => rw [e] at h; cases h
      | some i =>
        rw [e] at h
        cases h
        obtain ⟨⟨y, h1, h2⟩, h3⟩ := indexOf_at (n := n) e
        refine ⟨⟨y, by simpa using h1, h2⟩, fun m z hm hz => ?_⟩
        cases m with
        | zero => simp at hz; subst hz; simpa using hx
        | succ m => exact h3 m z (Nat.lt_of_succ_lt_succ hm) (by simpa using hz)
theorem toPys_get : ∀ {xs : List D} {j : Nat}, (toPys xs)[j]? = (xs[j]?).map toPy
  | [], j => by simp [toPys]
  | x :: r, 0 => by simp [toPys]
  | x :: r, j + 1 => by simp [toPys, toPys_get (xs := r) (j := j)]
theorem dats_get {n : Nat} : ∀ {xs : List D} {j : Nat} {x : D}, D.dats n xs = true → xs[j]? = some x → x.dat n = true
  | [], j, _, _, h => by simp at h
  | x :: r, j, y, h, e => by
    unfold D.dats at h
    rw [Bool.and_eq_true] at h
    cases j with
    | zero => simp at e; subst e; exact h.1
    | succ j => exact dats_get h.2 (by simpa using e)
theorem bm_index {o as : CE} {e : Expr} {es : List Expr} {apos pos : Pos} (x : XOk q sc N W X) (h : PE X e (tE q W o)) (A : Args X q W as es) (mb : MB X e es apos pos) (ne : es ≠ []) : PE X (.Call (.Attribute e "index" apos) es [] pos) (tE q W (.bm .index o as)) := by
  cases A with
  | nil => exact absurd rfl ne
  | cons h1 p1 A =>
    have A' := Args.cons h1 p1 A
    refine PE.dyn fun σ H Q ⟨env, μ, ι, G, R, S, c⟩ => ⟨_, pe_bm PySem.F.plainAttrs_list PySem.F.slot_list_index PySem.F.type_list_index (mt_indexD (by have := x.room.un; omega)) h A'.pa (att_base mb.hs _ _ _) (few_ok mb.hp mb.hf) mb.hl (pl_star p1 _ _) (pl_any A.pl), bm_tbm R S c (fun d μ1 hb => ty_list x.eK hb) fun d ds μ2 v vs ι2 G2 H2 r2 rv rl c2 => ?_⟩
    cases rl with
    | nil => cases d <;> exact c2.elim
    | cons rd rl => cases rl with
      | cons _ _ => cases d <;> exact c2.elim
      | nil =>
        rename_i v1 d1
        cases hl : lstOf μ2 d with
        | none => simp only [bmS, hl] at c2; exact c2.elim
        | some xs =>
          simp only [bmS, hl] at c2
          split at c2
          · rename_i hd
            rw [Bool.and_eq_true] at hd
            cases hi : indexOf d1 xs with
            | none => rw [hi] at c2; exact c2.elim
            | some j =>
              rw [hi] at c2
              obtain ⟨a, us, rfl, e1, e2⟩ := r2.lstOf rv hl
              obtain ⟨s1, s2, s3⟩ := dps_of r2.fz e2 hd.1
              obtain ⟨p1, p2, p3⟩ := dp_of r2.fz rd hd.2
              obtain ⟨⟨z, z1, z2⟩, z3⟩ := indexOf_at (n := 0) hi
              refine ⟨a, v1, toPy d1, toPys xs, j, toPy z, rfl, rfl, by rw [x.eK]; exact .lst (.inl e1) s1, by rw [x.eK]; exact p1, shaped_of (n := 60) (by unfold PyData.canLay0; exact s2) (by unfold PyData.depth; omega) (by decide), shaped_of p2 p3 (by decide), by rw [toPys_get, z1]; rfl, by rw [eqv_py z d1 (dats_get hd.1 z1) hd.2]; exact z2, fun m w hm hw => ?_, ct_val c2 r2 (.int _)⟩
              rw [toPys_get] at hw
              obtain ⟨y, hy, rfl⟩ := Option.map_eq_some_iff.mp hw
              rw [eqv_py y d1 (dats_get hd.1 hy) hd.2]
              exact z3 m y hm hy
          · exact c2.elim
/-- a list lengthened by another, any that may be read -/
def rExtR : V → List V → Hp → VK → Prop := fun x vs H Q => ∃ l b xs zs, x = .ref l ∧ vs = [V.ref b] ∧ H l = some (.lst xs) ∧ Rd H b (.lst zs) ∧ xs.length + zs.length ≤ sizeLine ∧ Q .non (upd H l (.lst (xs ++ zs)))
theorem mt_extR : MtM X "list.extend" rExtR := by
  intro pins s σ H x vs v us Q I rx rv h
  obtain ⟨l, b, xs, zs, rfl, rfl, hH, hB, hz, q⟩ := h
  cases rx
  obtain ⟨u, rfl, ru⟩ := rv.one
  cases ru
  obtain ⟨z, its, n, r, hl, e⟩ := I.lstM hH
  obtain ⟨z2, its2, n2, r2, e2⟩ := hB.ok I.hok
  have hl2 := r2.length
  have hsz : its.toArray.size + its2.toArray.size ≤ sizeLine := by rw [List.size_toArray, List.size_toArray]; omega
  have hlong : ¬ (!its.toArray.isEmpty && Builtin.List.listTooLong (its.toArray.size + its2.toArray.size)) = true := by
    rw [notLongL hsz, Bool.and_false]
    exact Bool.false_ne_true
  refine call_meets F.slot_list_extend ⟨_, e, rfl⟩ F.entry_list_extend (F.args_list_extend_2 _ _)
    (AutoSeq1.list_extend_list_list_0 l its.toArray n b its2.toArray n2 hlong (by rw [List.size_toArray]; omega) (by omega)) ⟨e, e2, ?_⟩
  refine ⟨.non, _, I.lset (its' := its ++ its2) hH e (by simp) (r.append r2) ?_, rfl, q⟩
  rw [List.length_append]
  omega
theorem bm_extend {o as : CE} {e : Expr} {es : List Expr} {apos pos : Pos} (x : XOk q sc N W X) (h : PE X e (tE q W o)) (ha : PA X es (tA q W as)) (b : MB X e es apos pos) (ne : es ≠ []) : PE X (.Call (.Attribute e "extend" apos) es [] pos) (tE q W (.bm .extend o as)) := by
  cases es with
  | nil => exact absurd rfl ne
  | cons e1 es =>
    have hp := b.hp
    rw [List.all_cons, Bool.and_eq_true] at hp
    refine PE.dyn fun σ H Q ⟨env, μ, ι, G, R, S, c⟩ => ⟨_, pe_bm PySem.F.plainAttrs_list PySem.F.slot_list_extend PySem.F.type_list_extend mt_extR h ha (att_base b.hs _ _ _) (few_ok b.hp b.hf) b.hl (pl_star hp.1 es _) (pl_any hp.2), bm_tbm R S c (fun d μ1 hb => ty_list x.eK hb) fun d ds μ2 v vs ι2 G2 H2 r2 rv rl c2 => ?_⟩
    cases d with
    | cell i => cases rl with
      | cons rd rl => cases rl with
        | nil =>
          rename_i v1 d1
          cases hc : μ2[i]? with
          | none => simp only [bmS, hc] at c2; exact c2.elim
          | some cc => cases cc with
            | lst xs =>
              obtain ⟨a, us, rfl, e1, e2, e3, e4⟩ := cell_lst r2 rv hc
              cases hl : lstOf μ2 d1 with
              | none => simp only [bmS, hc, hl] at c2; exact c2.elim
              | some ys =>
                obtain ⟨a2, us2, rfl, f1, f2⟩ := r2.lstOf rd hl
                simp only [bmS, hc, hl] at c2
                split at c2
                · rename_i hz
                  refine ⟨a, a2, us, us2, rfl, rfl, e3, f1, ?_, ct_write r2 e1 hc rfl (.lst e2 upd_same (e4.append f2)) c2⟩
                  have := flip_len hz
                  rw [e4.length, f2.length]
                  exact this
                · exact c2.elim
            | _ => simp only [bmS, hc] at c2; exact c2.elim
        | cons _ _ => exact c2.elim
      | nil => exact c2.elim
    | _ => exact c2.elim
/-- a list's cell is emptied -/
theorem bm_clear {o : CE} {e : Expr} {apos pos : Pos} (x : XOk q sc N W X) (h : PE X e (tE q W o)) (hs : noSup e = true) (hl : (apos.endLine == pos.line) = true) : PE X (.Call (.Attribute e "clear" apos) [] [] pos) (tE q W (.bm .clear o .anil)) := by
  refine PE.dyn fun σ H Q ⟨env, μ, ι, G, R, S, c⟩ => ?_
  have c' : Ct q.T W σ ι G ((evE q.P q.call o env μ).bind fun d μ => if bmTy μ .clear d then bmS μ .clear d [] else .bad) Q := c
  have main : ∀ (T : String) (r : V → List V → Hp → VK → Prop), (∀ d μ1, evE q.P q.call o env μ = .ok d μ1 → ∀ v ι G H, RelH q.T ι G μ1 H → RepD q.T ι G v d → Ct q.T W σ ι G (bmS μ1 .clear d []) Q → tyV X.K T v H ∧ r v [] H Q) → tBM0 X.K T r (tE q W o) σ H Q := fun T r hr => by
    refine ⟨env, μ, ι, G, R, S, GCt.bind c' fun d μ1 v ι1 G1 H1 he g r1 rv c1 => ?_⟩
    split at c1
    · exact hr d μ1 he v ι1 G1 H1 r1 rv c1
    · exact c1.elim
  have lst : PE X (.Call (.Attribute e "clear" apos) [] [] pos) (tBM0 X.K "list" rClear (tE q W o)) := pe_bm0 PySem.F.plainAttrs_list PySem.F.slot_list_clear PySem.F.type_list_clear mt_clear h (att_base hs _ _ _) hl
  refine ⟨_, lst, ?_⟩
  refine main _ _ fun d μ1 he v ι1 G1 H1 r1 rv c1 => ?_
  cases d with
  | cell i =>
    cases hc : μ1[i]? with
    | none => simp only [bmS, hc] at c1; exact c1.elim
    | some cc => cases cc with
      | lst xs =>
        obtain ⟨a, us, rfl, e1, e2, e3, e4⟩ := cell_lst r1 rv hc
        simp only [bmS, hc] at c1
        exact ⟨.inl ⟨rfl, us, .inl (.inl e3)⟩, a, us, rfl, rfl, e3, ct_write r1 e1 hc rfl (.lst e2 upd_same .nil) c1⟩
      | _ => simp only [bmS, hc] at c1; exact c1.elim
  | _ => exact c1.elim
end Co

set_option linter.all false
set_option maxRecDepth 100000
set_option Elab.async false
/-! Ck1: a dict copied by dict(d). -/
namespace Co
open PySem L2
theorem nodup_le1 {α : Type} : ∀ l : List α, l.length ≤ 1 → l.Nodup
  | [], _ => List.nodup_nil
  | [x], _ => by simp
  | _ :: _ :: _, h => by simp at h
section
variable {prog : Program} {w : World} {K : Type} [DecidableEq K] {knd : HeapKind prog w K} {A : Around} {E : Value → Shared → Prop} {s : Shared}
/-- dict(o), o's keys objects that are tuples, at most one of them -/
theorem call_dictH {o : Addr} {more : List (K × Addr × Value)} {Q : Value → Shared → Prop} (hu : knd.room A.in1.in1) (hoS : (o == sysModules) = false) (ho : s.heap.DictOfH knd o more) (ho' : (s.heap.push { cls := .type "dict", data := .dict #[] }).DictOfH knd o more)
    (hty : ∀ x ∈ more, s.TypeIs (.ref x.2.1) "tuple") (hsz : more.length ≤ 1)
    (h : ∀ h', h'.DictOfH knd s.heap.objs.size more → (∀ b q, s.heap.get? b = some q → h'.get? b = some q) → Q (.ref s.heap.objs.size) { s with heap := h' }) :
    wpAny (model prog w) A (call (.type "dict") [.ref o]) Q E s := by
  refine callType_codes (Q₁ := fun obj s₁ => obj = .ref s.heap.objs.size ∧ s₁ = { s with heap := s.heap.push { cls := .type "dict", data := .dict #[] } }) F.kt_called_dict (F.kt_typeCall_dict_1 _) F.entry_dict_init (kt_code_dict_new _ ⟨rfl, rfl⟩) ?_
  rintro obj s₁ ⟨rfl, rfl⟩
  have hnew : (s.heap.push { cls := .type "dict", data := .dict #[] }).DictOfH knd s.heap.objs.size [] := Heap.DictOfH.new s.heap
  have hdo : s.heap.objs.size ≠ o := by
    obtain ⟨_, _, _, hg, _⟩ := ho
    exact fun e => absurd (Heap.lt_size hg) (by rw [e]; exact Nat.lt_irrefl _)
  refine ⟨hnew.typeIs, F.args_dict_init_2 _ _, ?_⟩
  unfold Builtin.«dict.__init__»
  refine wpAny_bind ?_
  unfold Builtin.Dict.selfAndRest
  refine wpAny_bind (wpAny_notOrdered_dict hnew.typeIs ?_)
  show wpAny _ _ (pure (s.heap.objs.size, [Value.ref o])) _ _ _
  refine wpAny_pure ?_
  refine updateFrom_dictH (A := A.in1) .none hu hdo hoS hnew ho' (.inr ⟨fun x hx => ?_, ?_⟩) (by
    have : (1 : Nat) ≤ sizeLine := by decide
    simp only [List.length_nil]
    omega) fun h' hd' _ hs' => ?_
  · obtain ⟨q, hq, hc⟩ := hty x hx
    exact ⟨q, Heap.get?_push_of_some _ hq, hc⟩
  · exact nodup_le1 _ (by rw [List.length_map]; exact hsz)
  · rw [storedAllH_nil_of_nodup more ho.nodup] at hd'
    exact ⟨rfl, h h' hd' fun b q hq => (hs'.2 b (Nat.ne_of_lt (Heap.lt_size hq))).trans (Heap.get?_push_of_some _ hq)⟩
end
section
variable {X : Cx} {pins : List (Addr × Obj)} {σ : L2.St} {H : Hp} {s : Shared} {a : Addr}
theorem kt_tup {P : Program} {w : World} {H : Hp} {h : Heap} (ok : HOk P w H h) : ∀ {l : List (List Key × V)} {m : List (List Key × Addr × Value)}, KT H l m → ∀ x ∈ m, ∃ q, h.get? x.2.1 = some q ∧ q.cls = .type "tuple"
  | _, _, .nil, x, hx => by cases hx
  | _, _, .cons hq t, x, hx => by
    rcases List.mem_cons.mp hx with e | hx
    · subst e
      obtain ⟨_, its, r, o, h1, h2, _⟩ := (show ObjOk P w H h _ (.tup _) from ok _ _ hq.2.1)
      exact ⟨o, h1, h2⟩
    · exact kt_tup ok t x hx
theorem d_copyT {kvs : List (List Key × V)} {A : Around} {E : Value → Shared → Prop} {Q : Value → Shared → Prop} (hu : A.units + 2 < cLine) (I : Inv X pins σ H s) (e : Rd H a (.dT kvs)) (hl : kvs.length ≤ 1)
    (h : ∀ p s', H p = none → Inv X pins σ (upd H p (.dT kvs)) s' → Q (.ref p) s') : wpAny (model X.prog X.w) A (call (.type "dict") [.ref a]) Q E s := by
  obtain ⟨z, hd, xs, rel, dd⟩ := dt_rd I.hok e
  have hlen : kvs.length = xs.length := Paired.length rel
  have tup := kt_tup I.hok rel
  have stay : ∀ h' : Heap, (∀ b q, s.heap.get? b = some q → h'.get? b = some q) → ∀ x ∈ xs, (tupleKind (mixKind X.prog X.w)).is h' x.1 x.2.1 := fun h' hk x hx => by
    obtain ⟨_, _, _, _, _, _, _, his, _⟩ := dd
    obtain ⟨o, its, n, h1, h2, h3, h4⟩ := his x hx
    exact ⟨o, its, n, hk _ _ h1, h2, h3, h4⟩
  have dd' : (s.heap.push { cls := .type "dict", data := .dict #[] }).DictOfH (tupleKind (mixKind X.prog X.w)) a xs := by
    obtain ⟨o, es, ep, h1, h2, h3, h4, _, h6⟩ := dd
    exact ⟨o, es, ep, Heap.get?_push_of_some _ h1, h2, h3, h4, stay _ fun b q hq => Heap.get?_push_of_some _ hq, h6⟩
  refine call_dictH (tupleKind_room_in1 (show A.units + 1 + 1 < cLine from hu)) hd dd dd' (fun x hx => tup x hx) (by omega) fun h' hdn hk => ?_
  refine h _ _ (I.hok.fresh (Nat.le_refl _)) (I.laid (a := s.heap.objs.size) (o := .dT kvs) (t' := s.toks) hk (Nat.le_refl _) ?_)
  exact ⟨z, beq_eq_false_iff_ne.mpr (Ne.symm (Nat.ne_of_lt I.big)), xs, Paired.mapP rel fun p r z => ⟨z.1, by rw [upd_ne fun q => by have e := z.2.1; rw [q, I.hok.fresh (Nat.le_refl _)] at e; cases e]; exact z.2.1, z.2.2⟩, let ⟨o, es, ep, h1, h2, h3, h4, _, h6⟩ := hdn; ⟨o, es, ep, h1, h2, h3, h4, h6⟩⟩
/-- dict(d) -/
theorem cr_copyK : CallR X (.type "dict") (fun xs H Q => ∃ (a : Addr) (kvs : List (Key × V)), xs = [.ref a] ∧ Rd H a (.dK kvs) ∧ ∀ p, H p = none → Q (.ref p) (upd H p (.dK kvs))) := by
  intro pins s σ H xs us Q I r h
  obtain ⟨a, kvs, rfl, e, q⟩ := h
  cases r with
  | cons ru rn =>
    cases rn
    cases ru
    exact d_copyOf I e fun p s' hp I' => ⟨.ref p, _, I', rfl, q p hp⟩
theorem cr_copyT (hu : X.A.units + 2 < cLine) : CallR X (.type "dict") (fun xs H Q => ∃ (a : Addr) (kvs : List (List Key × V)), xs = [.ref a] ∧ Rd H a (.dT kvs) ∧ kvs.length ≤ 1 ∧ ∀ p, H p = none → Q (.ref p) (upd H p (.dT kvs))) := by
  intro pins s σ H xs us Q I r h
  obtain ⟨a, kvs, rfl, e, hl, q⟩ := h
  cases r with
  | cons ru rn =>
    cases rn
    cases ru
    exact d_copyT hu I e hl fun p s' hp I' => ⟨.ref p, _, I', rfl, q p hp⟩
end
end Co

set_option linter.all false
set_option maxRecDepth 100000
set_option Elab.async false
/-! Ck2: setdefault, pop(0). -/
namespace Co
open PySem L2
variable {q : Cq} {sc : Scope} {N : List Str} {W : WX} {X : Cx}
theorem bm_pop {o as : CE} {e : Expr} {es : List Expr} {apos pos : Pos} (x : XOk q sc N W X) (h : PE X e (tE q W o)) (ha : PA X es (tA q W as)) (b : MB X e es apos pos) (ne : es ≠ []) : PE X (.Call (.Attribute e "pop" apos) es [] pos) (tE q W (.bm .pop o as)) := by
  cases es with
  | nil => exact absurd rfl ne
  | cons e1 es =>
    have hp := b.hp
    rw [List.all_cons, Bool.and_eq_true] at hp
    refine PE.dyn fun σ H Q ⟨env, μ, ι, G, R, S, c⟩ => ⟨_, pe_bm (T := "list") PySem.F.plainAttrs_list PySem.F.slot_list_pop PySem.F.type_list_pop mt_popAt h ha (att_base b.hs _ _ _) (few_ok b.hp b.hf) b.hl (pl_star hp.1 es _) (pl_any hp.2), ?_⟩
    refine bm_tbm R S c (fun d μ1 hb v ι G H R r => ?_) fun d ds μ2 v vs ι2 G2 H2 r2 rv rl c2 => ?_
    · have hb' : (lstOf μ1 d).isSome = true := hb
      exact ty_list x.eK hb' v ι G H R r
    · cases d with
      | cell i => cases rl with
        | nil => exact c2.elim
        | cons rd rl => cases rl with
          | cons _ _ => cases rd <;> exact c2.elim
          | nil => cases rd with
            | int j =>
              cases hc : μ2[i]? with
              | none => simp only [bmS, hc] at c2; exact c2.elim
              | some cc => cases cc with
                | lst xs =>
                  cases xs with
                  | nil => simp only [bmS, hc] at c2; exact c2.elim
                  | cons y ys =>
                    simp only [bmS, hc] at c2
                    split at c2
                    · rename_i hj
                      subst hj
                      obtain ⟨a, us, rfl, e1, e2, e3, e4⟩ := cell_lst r2 rv hc
                      cases e4 with
                      | cons ry rr =>
                        refine ⟨a, _, 0, 0, _, rfl, rfl, e3, by decide, by decide, by simp [PySem.seqIndex?], rfl, ?_⟩
                        exact ct_val c2 (r2.write e1 hc rfl (.lst e2 upd_same rr)) ry
                    · exact c2.elim
                | _ => simp only [bmS, hc] at c2; exact c2.elim
            | _ => exact c2.elim
      | _ => exact c2.elim
theorem bm_setdefault {o a1 a2 : CE} {fz : Bool} {e e1 e2 : Expr} {apos pos : Pos} (x : XOk q sc N W X) (h : PE X e (tE q W o)) (h1 : PE X e1 (tE q W a1)) (h2 : PE X e2 (tE q W a2)) (b : MB X e [e1, e2] apos pos) :
    PE X (.Call (.Attribute e "setdefault" apos) [e1, e2] [] pos) (tE q W (.bm (.setdefault fz) o (.acons a1 (.acons a2 .anil)))) := by
  have isd : ∀ (d : D) (μ : Store), bmTy μ (.setdefault fz) d = true → ∀ v ι G H, RelH q.T ι G μ H → RepD q.T ι G v d → ∃ a, v = .ref a ∧ IsD H a := fun d μ hb v ι G H R r => by
    obtain ⟨⟨t, kvs⟩, hd⟩ := Option.isSome_iff_exists.mp hb
    obtain ⟨a, rfl, ⟨_, k, h1, _⟩ | ⟨_, k, h1, _⟩⟩ := R.dicOf r hd
    · exact ⟨a, rfl, .inl ⟨k, h1⟩⟩
    · exact ⟨a, rfl, .inr ⟨k, h1⟩⟩
  refine PE.dyn fun σ H Q ⟨env, μ, ι, G, R, S, c⟩ => ⟨_, pe_dsetd h h1 h2 b.m2, env, μ, ι, G, R, S, ?_⟩
  have c' : Ct q.T W σ ι G ((evE q.P q.call o env μ).bind fun d μ => if bmTy μ (.setdefault fz) d then ((evE q.P q.call a1 env μ).bind fun d μ => ((evE q.P q.call a2 env μ).bind fun d μ => .ok [d] μ).bind fun ds μ => .ok (d :: ds) μ).bind fun ds μ => bmS μ (.setdefault fz) d ds else .bad) Q := c
  refine GCt.bind c' fun d μ1 v ι1 G1 H1 _ g r1 rv c1 => ?_
  split at c1
  · rename_i hb
    obtain ⟨a, ev, hi⟩ := isd d μ1 hb v ι1 G1 H1 r1 rv
    refine ⟨a, ev, hi, env, μ1, ι1, G1, r1, S.mono g, ?_⟩
    have c2 : Ct q.T W σ ι1 G1 ((evE q.P q.call a1 env μ1).bind fun k μ => (evE q.P q.call a2 env μ).bind fun z μ => bmS μ (.setdefault fz) d [k, z]) Q := by
      cases he : evE q.P q.call a1 env μ1 with
      | ok k μ2 =>
        rw [he] at c1
        simp only [Res.bind_ok] at c1 ⊢
        cases he2 : evE q.P q.call a2 env μ2 with
        | ok k μ2 => rw [he2] at c1; exact c1
        | ex k μ2 => rw [he2] at c1; exact c1
        | bad => rw [he2] at c1; exact c1
      | ex k μ2 => rw [he] at c1; exact c1
      | bad => rw [he] at c1; exact c1
    refine GCt.bind c2 fun k μ2 y ι2 G2 H2 _ g2 r2 ry c3 => ⟨env, μ2, ι2, G2, r2, (S.mono g).mono g2, GCt.bind c3 fun z μ3 w ι3 G3 H3 _ g3 r3 rw' c4 => ?_⟩
    have rv3 := (rv.mono g2).mono g3
    subst ev
    cases d with
    | cell i =>
      cases hc : μ3[i]? with
      | none => simp only [bmS, hc] at c4; exact c4.elim
      | some cc => cases cc with
        | dic t kvs => cases t with
          | true => simp only [bmS, hc] at c4; exact c4.elim
          | false =>
            simp only [bmS, hc] at c4
            split at c4
            · rename_i hk
              rw [Bool.and_eq_true] at hk
              cases rv3 with
              | cell hi3 =>
                cases r3.cel i _ _ hi3 hc with
                | @dicK kv _ k1 k2 k3 =>
                  obtain ⟨key, rfl, rfl, kk⟩ := key_of (ry.mono g3) hk.1
                  have hl : kv.length < sizeLine := by
                    have := flip_len hk.2
                    rw [k3.length]
                    omega
                  have hf := k3.find key
                  refine ⟨kv, key, k2, rfl, hl, fun u hu => ?_, fun hu => ?_⟩
                  · cases hk2 : kfind kvs (kD key) with
                    | none =>
                      rw [hk2] at hf
                      rw [hf] at hu
                      cases hu
                    | some z2 =>
                      rw [hk2] at hf
                      obtain ⟨u2, e1, e2⟩ := hf
                      rw [e1] at hu
                      cases hu
                      rw [hk2] at c4
                      exact ct_val c4 r3 e2
                  · cases hk2 : kfind kvs (kD key) with
                    | some z2 =>
                      rw [hk2] at hf
                      obtain ⟨u2, e1, e2⟩ := hf
                      rw [e1] at hu
                      cases hu
                    | none =>
                      rw [hk2] at c4
                      exact ct_val c4 (r3.write hi3 hc rfl (.dicK k1 upd_same (k3.put key kk rw'))) rw'
            · exact c4.elim
        | _ => simp only [bmS, hc] at c4; exact c4.elim
    | _ => exact c4.elim
  · exact c1.elim
end Co

set_option linter.all false
set_option maxRecDepth 100000
set_option Elab.async false
/-! Co11: built-ins called, subscripts, slices, displays. -/
namespace Co
open PySem L2
variable {q : Cq} {sc : Scope} {N : List Str} {W : WX} {X : Cx}
/-- what a rule of a built-in is worth -/
def Bi1 (q : Cq) (W : WX) (b : BI) (ds : List D) (μ : Store) (r : List V → Hp → VK → Prop) : Prop :=
  ∀ (σ : L2.St) (Q : VK) (vs : List V) (ι : List Addr) (G H : Hp), RelH q.T ι G μ H → RepL q.T ι G vs ds → Ct q.T W σ ι G (biS μ b ds) Q → r vs H Q
def biName : BI → Str
  | .len => "len"
  | .str => "str"
  | .int => "int"
  | .list _ => "list"
  | .tuple => "tuple"
  | .dict _ => "dict"
  | .lenset => "len"
  | .sorted _ => "sorted"
  | .sum => "sum"
  | .abs => "abs"
  | .min => "min"
  | .max => "max"
  | .divmod => "divmod"
def biVal : BI → Value
  | .len => .builtin "len"
  | .str => .type "str"
  | .int => .type "int"
  | .list _ => .type "list"
  | .tuple => .type "tuple"
  | .dict _ => .type "dict"
  | .lenset => .builtin "len"
  | .sorted _ => .builtin "sorted"
  | .sum => .builtin "sum"
  | .abs => .builtin "abs"
  | .min => .builtin "min"
  | .max => .builtin "max"
  | .divmod => .builtin "divmod"
/-- those that are served -/
def biOk : BI → Bool
  | .len => true
  | .str => true
  | .int => true
  | .list _ => true
  | .dict _ => true
  | .tuple => true
  | .sum => true
  | .abs => true
  | .min => true
  | .max => true
  | _ => false
theorem sqv {K : PySem.W.Frag} {H : Hp} {a : Addr} {vs : List V} (h : SqL K H a vs ∨ SqT K H a vs) {n : Nat} (e : n = vs.length) : LenV K (.ref a) H n := by
  rcases h with h | h
  · exact .inl ⟨vs, h, e⟩
  · exact .inr ⟨vs, h, e⟩
theorem strK_of (s : String) : strK (Str.ofString s) := fun c hc => by
  have e : (Str.ofString s).cps.toList = s.toList.map Char.toNat := TL.tl_ofString s
  rw [e] at hc
  obtain ⟨ch, _, rfl⟩ := List.mem_map.mp hc
  have h := ch.valid
  have e2 : ch.toNat = ch.val.toNat := rfl
  rw [e2]
  rcases h with h | ⟨_, h⟩
  · exact Nat.lt_of_lt_of_le h (by decide)
  · exact h
theorem digits_ok (i : Int) : strK (Str.ofString (toString i)) := strK_of _
/-- put as told: frozen, or in a cell -/
theorem ct_put {T : Nam} {W : WX} {σ : L2.St} {ι : List Addr} {G H : Hp} {μ : Store} {Q : VK} {fz : Bool} {xs : List D} {vs : List V} (c : Ct T W σ ι G (put μ fz (.lst xs)) Q) (R : RelH T ι G μ H) (r : RepL T ι G vs xs) {p : Addr} (h : H p = none) : Q (.ref p) (upd H p (.lst vs)) := by
  cases fz with
  | true => exact ct_new c R _ h fun G' g e => .lst (.inl e) (r.mono g)
  | false =>
    have R2 := R.cell (c := .lst xs) (o := .lst vs) h (.lst (R.fz.free h) upd_same r)
    exact c (.ref p) (ι ++ [p]) G _ (Grow.cell ι G p) R2 (.cell (by rw [← R.len]; simp))
/-- what a built-in hands out stays as it is -/
def rPin (r : List V → Hp → VK → Prop) : List V → Hp → VK → Prop := fun vs H Q => r vs H fun v H' => ∃ d u, H' d = some u ∧ Mut (some u) ∧ ∀ od, Q v (upd H' d (.frz od u))
theorem cr_pin {f : Value} {r : List V → Hp → VK → Prop} (h : CallR X f r) : CallR X f (rPin r) := fun pins s σ H xs us Q I rv q =>
  thn (h pins s σ H xs us _ I rv q) fun v s1 ⟨x, H1, I1, r1, d, u, hd, mu, k⟩ => by
    obtain ⟨od, I2⟩ := I1.lock hd mu
    exact ⟨x, _, I2, r1, k od⟩
theorem isKey_rep {T : Nam} {ι : List Addr} {G : Hp} {v : V} {d : D} (r : RepD T ι G v d) (h : d.isKey = true) : ∃ k, v = kV k ∧ d = kD k ∧ keyK k := key_of r h
theorem pairs_rep {T : Nam} {ι : List Addr} {G H : Hp} (f : Fz G H) : ∀ {vs : List V} {ds : List D} {kvs : List (D × D)}, RepL T ι G vs ds → pairsD ds = some kvs →
    ∃ (ps : List Addr) (kv : List (L2.Key × V)), vs = ps.map V.ref ∧ Paired (fun p (kv : L2.Key × V) => SqT T.K H p [kV kv.1, kv.2]) ps kv ∧ RepK T ι G kv kvs
  | _, _, _, .nil, h => by cases h; exact ⟨[], [], rfl, .nil, .nil⟩
  | _, _, _, .cons hd r, h => by
    cases hd with
    | tup e l => cases l with
      | nil => cases h
      | cons h1 l => cases l with
        | nil => cases h
        | cons h2 l => cases l with
          | cons _ _ => cases h
          | nil =>
            unfold pairsD at h
            split at h
            · rename_i hk
              obtain ⟨m, hm, rfl⟩ := Option.map_eq_some_iff.mp h
              obtain ⟨ps, kv, rfl, p2, p3⟩ := pairs_rep f r hm
              obtain ⟨k, rfl, rfl, kk⟩ := key_of h1 hk
              exact ⟨_ :: ps, (k, _) :: kv, rfl, .cons (.inl (.inl (f.tup e))) p2, .cons kk h2 p3⟩
            · cases h
    | _ => cases h
theorem merge_rep {T : Nam} {ι : List Addr} {G : Hp} : ∀ {kv : List (L2.Key × V)} {kvs : List (D × D)} {av : List (L2.Key × V)} {ad : List (D × D)}, RepK T ι G kv kvs → RepK T ι G av ad → RepK T ι G (mergeK av kv) (mergeD ad kvs)
  | _, _, _, _, .nil, a => a
  | _, _, _, _, .cons (k := k) (v := v) (vs := vs) (d := d) (ds := ds) kk h r, a =>
    show RepK T ι G (mergeK (putK _ k v) vs) (mergeD (kput _ (kD k) d) ds) from merge_rep r (a.put k kk h)
theorem bi_rule (x : XOk q sc N W X) {b : BI} (hk : biOk b = true) {ds : List D} {μ : Store} (hb : biS μ b ds ≠ .bad) : ∃ r, CallR X (biVal b) r ∧ Bi1 q W b ds μ r := by
  cases b <;> first | cases hk | skip
  · -- len
    cases ds with
    | nil => exact absurd rfl hb
    | cons d ds => cases ds with
      | cons _ _ => exact absurd rfl hb
      | nil =>
        cases hl : lenOf μ d with
        | none => simp only [biS, hl] at hb; exact absurd rfl hb
        | some n =>
          refine ⟨_, call_len, fun σ Q vs ι G H R rl c => ?_⟩
          cases rl with
          | cons rd rl => cases rl with
            | nil =>
              simp only [biS, hl] at c
              rename_i v
              refine ⟨v, n, rfl, ?_, ct_val c R (.int _)⟩
              rw [x.eK]
              cases hs : seqOf μ d with
              | some xs =>
                obtain ⟨a, us, rfl, h1, h2⟩ := R.seqOf rd hs
                have e : n = xs.length := by cases rd <;> simp_all [lenOf]
                exact sqv h1 (by rw [e, h2.length])
              | none =>
                cases rd with
                | str k =>
                  rename_i z
                  simp only [lenOf] at hl
                  split at hl
                  · rename_i hz
                    cases hl
                    exact ⟨flip_len hz, rfl⟩
                  · cases hl
                | _ => simp [lenOf, hs] at hl
  · -- str
    cases ds with
    | nil => exact absurd rfl hb
    | cons d ds => cases ds with
      | cons _ _ => cases d <;> exact absurd rfl hb
      | nil => cases d with
        | int i =>
          refine ⟨_, call_str_int, fun σ Q vs ι G H R rl c => ?_⟩
          cases rl with
          | cons rd rl => cases rl with
            | nil => cases rd with
              | int i =>
                simp only [biS] at c
                split at c
                · rename_i hz
                  exact ⟨i, rfl, of_decide_eq_true hz, ct_val c R (.str (digits_ok i))⟩
                · exact c.elim
        | _ => exact absurd rfl hb
  · -- int
    cases ds with
    | nil => exact absurd rfl hb
    | cons d ds => cases ds with
      | cons _ _ => cases d <;> exact absurd rfl hb
      | nil => cases d with
        | int i =>
          refine ⟨_, call_int1, fun σ Q vs ι G H R rl c => ?_⟩
          cases rl with
          | cons rd rl => cases rl with
            | nil => cases rd with
              | int i => exact .inl ⟨i, rfl, ct_val c R (.int _)⟩
        | bl b =>
          refine ⟨_, call_int1, fun σ Q vs ι G H R rl c => ?_⟩
          cases rl with
          | cons rd rl => cases rl with
            | nil => cases rd with
              | bl b => exact .inr ⟨b, rfl, ct_val c R (.int _)⟩
        | str z =>
          refine ⟨_, call_int_str, fun σ Q vs ι G H R rl c => ?_⟩
          cases rl with
          | cons rd rl => cases rl with
            | nil => cases rd with
              | str k =>
                simp only [biS] at c
                split at c
                · rename_i hz
                  cases hi : PySem.intText? z with
                  | none => rw [hi] at c; exact c.elim
                  | some n =>
                    rw [hi] at c
                    exact ⟨z, n, rfl, hi, of_decide_eq_true hz, ct_val c R (.int _)⟩
                · exact c.elim
        | _ => exact absurd rfl hb
  · -- list
    rename_i fz
    cases ds with
    | nil => exact absurd rfl hb
    | cons d ds => cases ds with
      | cons _ _ => exact absurd rfl hb
      | nil =>
        cases hs : seqOf μ d with
        | some xs =>
          refine ⟨_, call_list_of, fun σ Q vs ι G H R rl c => ?_⟩
          cases rl with
          | cons rd rl => cases rl with
            | nil =>
              simp only [biS, hs] at c
              obtain ⟨a, us, rfl, h1, h2⟩ := R.seqOf rd hs
              exact ⟨a, us, rfl, by rw [x.eK]; exact h1, fun l hl => ct_put c R h2 hl⟩
        | none => simp only [biS, hs] at hb; exact absurd rfl hb
  · -- tuple
    cases ds with
    | nil => exact absurd rfl hb
    | cons d ds => cases ds with
      | cons _ _ => cases d <;> exact absurd rfl hb
      | nil =>
        refine ⟨_, call_tuple_of, fun σ Q vs ι G H R rl c => ?_⟩
        cases rl with
        | cons rd rl => cases rl with
          | nil =>
            have viaL : ∀ (v : V) (d : D) xs, RepD q.T ι G v d → lstOf μ d = some xs → Ct q.T W σ ι G (.ok (.tup xs) μ) Q → (∃ p ys, [v] = [V.ref p] ∧ ((SqL X.K H p ys ∧ ∀ l, H l = none → Q (.ref l) (upd H l (.tup ys))) ∨ (SqT X.K H p ys ∧ Q (.ref p) H))) := fun v d xs rd hl c2 => by
              obtain ⟨a, us, rfl, h1, h2⟩ := R.lstOf rd hl
              exact ⟨a, us, rfl, .inl ⟨.inl h1, fun l hn => ct_new c2 R _ hn fun G' g e => .tup e (h2.mono g)⟩⟩
            cases rd with
            | tup e1 l => exact ⟨_, _, rfl, .inr ⟨.inl (.inl (R.fz.tup e1)), ct_val c R (.tup e1 l)⟩⟩
            | wtup e1 l => exact ⟨_, _, rfl, .inr ⟨by rw [x.eK]; exact R.fz.sqt e1, ct_val c R (.wtup e1 l)⟩⟩
            | lst e1 l => exact viaL _ _ _ (.lst e1 l) rfl c
            | cell hi =>
              rename_i a i
              cases hl : lstOf μ (.cell i) with
              | none => simp only [biS, hl] at c; exact c.elim
              | some xs => simp only [biS, hl] at c; exact viaL _ _ xs (.cell hi) hl c
            | _ => exact c.elim
  · -- dict
    rename_i fz
    cases ds with
    | nil => exact absurd rfl hb
    | cons d ds => cases ds with
      | cons _ _ => exact absurd rfl hb
      | nil =>
       cases hdd : dicOf μ d with
       | some p =>
        obtain ⟨t, kvs⟩ := p
        simp only [biS, hdd] at hb
        split at hb
        · rename_i hz
          cases t with
          | false =>
            have pre : ∀ (vs : List V) (ι : List Addr) (G H : Hp), RelH q.T ι G μ H → RepL q.T ι G vs [d] → ∃ (a : Addr) (kv : List (L2.Key × V)), vs = [.ref a] ∧ Rd H a (.dK kv) ∧ RepK q.T ι G kv kvs := fun vs ι G H R rl => by
              cases rl with
              | cons rd rl => cases rl with
                | nil =>
                  obtain ⟨a, rfl, ⟨_, kv, h1, h2⟩ | ⟨z, _⟩⟩ := R.dicOf rd hdd
                  · exact ⟨a, kv, rfl, h1, h2⟩
                  · cases z
            cases fz with
            | true =>
              refine ⟨_, cr_pin cr_copyK, fun σ Q vs ι G H R rl c => ?_⟩
              obtain ⟨a, kv, e1, e2, e4⟩ := pre vs ι G H R rl
              simp only [biS, hdd, if_pos hz] at c
              refine ⟨a, kv, e1, e2, fun p hp => ⟨p, _, upd_same, trivial, fun od => ?_⟩⟩
              rw [upd_upd]
              exact ct_new c R _ hp fun G' g e => .dicK e (e4.mono g)
            | false =>
              refine ⟨_, cr_copyK, fun σ Q vs ι G H R rl c => ?_⟩
              obtain ⟨a, kv, e1, e2, e4⟩ := pre vs ι G H R rl
              simp only [biS, hdd, if_pos hz] at c
              refine ⟨a, kv, e1, e2, fun p hp => ?_⟩
              exact c (.ref p) (ι ++ [p]) G _ (Grow.cell ι G p) (R.cell (c := .dic false _) hp (.dicK (R.fz.free hp) upd_same e4)) (.cell (by rw [← R.len]; simp))
          | true =>
            have hle : kvs.length ≤ 1 := by simpa using hz
            have hu : X.A.units + 2 < cLine := by have := x.room.units; omega
            have pre : ∀ (vs : List V) (ι : List Addr) (G H : Hp), RelH q.T ι G μ H → RepL q.T ι G vs [d] → ∃ (a : Addr) (kv : List (List L2.Key × V)), vs = [.ref a] ∧ Rd H a (.dT kv) ∧ kv.length ≤ 1 ∧ RepT q.T ι G kv kvs := fun vs ι G H R rl => by
              cases rl with
              | cons rd rl => cases rl with
                | nil =>
                  obtain ⟨a, rfl, ⟨z, _⟩ | ⟨_, kv, h1, h2⟩⟩ := R.dicOf rd hdd
                  · cases z
                  · exact ⟨a, kv, rfl, h1, by rw [h2.length]; exact hle, h2⟩
            cases fz with
            | true =>
              refine ⟨_, cr_pin (cr_copyT hu), fun σ Q vs ι G H R rl c => ?_⟩
              obtain ⟨a, kv, e1, e2, e3, e4⟩ := pre vs ι G H R rl
              simp only [biS, hdd, if_pos hz] at c
              refine ⟨a, kv, e1, e2, e3, fun p hp => ⟨p, _, upd_same, trivial, fun od => ?_⟩⟩
              rw [upd_upd]
              exact ct_new c R _ hp fun G' g e => .dicT e (e4.mono g)
            | false =>
              refine ⟨_, cr_copyT hu, fun σ Q vs ι G H R rl c => ?_⟩
              obtain ⟨a, kv, e1, e2, e3, e4⟩ := pre vs ι G H R rl
              simp only [biS, hdd, if_pos hz] at c
              refine ⟨a, kv, e1, e2, e3, fun p hp => ?_⟩
              exact c (.ref p) (ι ++ [p]) G _ (Grow.cell ι G p) (R.cell (c := .dic true _) hp (.dicT (R.fz.free hp) upd_same e4)) (.cell (by rw [← R.len]; simp))
        · exact absurd rfl hb
       | none =>
        cases hl : (lstOf μ d).bind pairsD with
        | none => simp only [biS, hdd, hl] at hb; exact absurd rfl hb
        | some kvs =>
          obtain ⟨xs, h1, h2⟩ := Option.bind_eq_some_iff.mp hl
          have pre : ∀ (vs : List V) (ι : List Addr) (G H : Hp), RelH q.T ι G μ H → RepL q.T ι G vs [d] → ∃ (a : Addr) (ps : List Addr) (kv : List (L2.Key × V)), vs = [.ref a] ∧ SqL X.K H a (ps.map V.ref) ∧ Paired (fun p (kv : L2.Key × V) => SqT X.K H p [kV kv.1, kv.2]) ps kv ∧ RepK q.T ι G (mergeK [] kv) (mergeD [] kvs) := fun vs ι G H R rl => by
            cases rl with
            | cons rd rl => cases rl with
              | nil =>
                obtain ⟨a, us, rfl, e1, e2⟩ := R.lstOf rd h1
                obtain ⟨ps, kv, rfl, p2, p3⟩ := pairs_rep R.fz e2 h2
                exact ⟨a, ps, kv, rfl, .inl e1, by rw [x.eK]; exact p2, merge_rep p3 .nil⟩
          cases fz with
          | true =>
            refine ⟨_, cr_pin (call_dictP x.calm), fun σ Q vs ι G H R rl c => ?_⟩
            obtain ⟨a, ps, kv, e1, e2, e3, e4⟩ := pre vs ι G H R rl
            simp only [biS, hdd, hl] at c
            refine ⟨a, ps, kv, e1, e2, e3, fun p hp => ⟨p, _, upd_same, trivial, fun od => ?_⟩⟩
            rw [upd_upd]
            exact ct_new c R _ hp fun G' g e => .dicK e (e4.mono g)
          | false =>
            refine ⟨_, call_dictP x.calm, fun σ Q vs ι G H R rl c => ?_⟩
            obtain ⟨a, ps, kv, e1, e2, e3, e4⟩ := pre vs ι G H R rl
            simp only [biS, hdd, hl] at c
            refine ⟨a, ps, kv, e1, e2, e3, fun p hp => ?_⟩
            exact c (.ref p) (ι ++ [p]) G _ (Grow.cell ι G p) (R.cell (c := .dic false _) hp (.dicK (R.fz.free hp) upd_same e4)) (.cell (by rw [← R.len]; simp))
  · -- sum
    cases ds with
    | nil => exact absurd rfl hb
    | cons d ds => cases ds with
      | cons _ _ => exact absurd rfl hb
      | nil =>
        refine ⟨_, cr_sum x.calm, fun σ Q vs ι G H R rl c => ?_⟩
        cases rl with
        | cons rd rl => cases rl with
          | nil =>
            cases hs : (lstOf μ d).bind allInt with
            | none => simp only [biS, hs] at c; exact c.elim
            | some ns =>
              simp only [biS, hs] at c
              obtain ⟨xs, h1, h2⟩ := Option.bind_eq_some_iff.mp hs
              obtain ⟨a, us, rfl, h3, h4⟩ := R.lstOf rd h1
              rw [ints_of h4 h2] at h3
              exact ⟨a, ns, rfl, .inl h3, ct_val c R (.int _)⟩
  · -- abs
    cases ds with
    | nil => exact absurd rfl hb
    | cons d ds => cases ds with
      | cons _ _ => cases d <;> exact absurd rfl hb
      | nil =>
        refine ⟨_, call_abs, fun σ Q vs ι G H R rl c => ?_⟩
        cases rl with
        | cons rd rl => cases rl with
          | nil => cases rd with
            | int i => exact ⟨i, rfl, ct_val c R (.int _)⟩
            | _ => exact c.elim
  · -- min
    refine ⟨_, call_min2 x.calm, fun σ Q vs ι G H R rl c => ?_⟩
    cases rl with
    | nil => exact c.elim
    | cons rd rl => cases rl with
      | nil => cases rd <;> exact c.elim
      | cons rd2 rl => cases rl with
        | cons _ _ => cases rd <;> cases rd2 <;> exact c.elim
        | nil => cases rd with
          | int i => cases rd2 with
            | int j => exact ⟨i, j, rfl, ct_val c R (.int _)⟩
            | _ => exact c.elim
          | _ => exact c.elim
  · -- max
    refine ⟨_, call_max2 x.calm, fun σ Q vs ι G H R rl c => ?_⟩
    cases rl with
    | nil => exact c.elim
    | cons rd rl => cases rl with
      | nil => cases rd <;> exact c.elim
      | cons rd2 rl => cases rl with
        | cons _ _ => cases rd <;> cases rd2 <;> exact c.elim
        | nil => cases rd with
          | int i => cases rd2 with
            | int j => exact ⟨i, j, rfl, ct_val c R (.int _)⟩
            | _ => exact c.elim
          | _ => exact c.elim
/-- a built-in called -/
theorem boot_ok {b : BI} (h : biOk b = true) : bootBuiltins (biName b) = some (biVal b) := by
  cases b <;> first | exact Bool.noConfusion h | decide +kernel | (rename_i fz; cases fz <;> decide +kernel)
theorem bi_blt {b : BI} (h : biOk b = true) : biName b ∈ blts := by
  cases b <;> first | exact Bool.noConfusion h | decide | (rename_i fz; cases fz <;> decide)
theorem bi_dbg {b : BI} (h : biOk b = true) : dbgB (biName b) = false := by
  cases b <;> first | exact Bool.noConfusion h | decide +kernel | (rename_i fz; cases fz <;> decide +kernel)
theorem se_bi {as : CE} {es : List Expr} {b : BI} {p pos : Pos} (x : XOk q sc N W X) (hk : biOk b = true) (hg : glB sc (biName b) = true) (A : Args X q W as es) (ne : es ≠ []) : PE X (.Call (.Name (biName b) p) es [] pos) (tE q W (.bi b as)) := by
  cases A with
  | nil => exact absurd rfl ne
  | cons h1 p1 A =>
    rename_i a1 r e1 es
    have A' := Args.cons h1 p1 A
    have mkP : ∀ r, CallR X (biVal b) r → PE X (.Call (.Name (biName b) p) (e1 :: es) [] pos) (tCB r (tA q W (.acons a1 _))) := fun r hr => by
      have hv := boot_ok hk
      cases hb : biVal b with
      | builtin id =>
        rw [hb] at hv hr
        exact pe_callB hr (x.gl hg) (x.lk.blt _ (bi_blt hk)) hv A'.pa (dbg3 (bi_dbg hk)) (dbg1 (bi_dbg hk)) (pl_star p1 _ _) (pl_any A.pl)
      | type t =>
        rw [hb] at hv hr
        exact pe_callTy hr (x.gl hg) (x.lk.blt _ (bi_blt hk)) hv A'.pa (dbg3 (bi_dbg hk)) (dbg1 (bi_dbg hk)) (pl_star p1 _ _) (pl_any A.pl)
      | _ => cases b <;> cases hb
    refine PE.dyn fun σ H Q ⟨env, μ, ι, G, R, S, c⟩ => ?_
    have c' : Ct q.T W σ ι G ((evA q.P q.call (.acons a1 _) env μ).bind fun ds μ => biS μ b ds) Q := c
    have go : ∀ r, (∀ ds μ1, evA q.P q.call (.acons a1 _) env μ = .ok ds μ1 → Bi1 q W b ds μ1 r) → tCB r (tA q W (.acons a1 _)) σ H Q := fun r hr =>
      ⟨env, μ, ι, G, R, S, GCt.bind c' fun ds μ1 vs ι1 G1 H1 he g r1 rl c1 => hr ds μ1 he σ Q vs ι1 G1 H1 r1 rl c1⟩
    cases he : evA q.P q.call (.acons a1 _) env μ with
    | bad => rw [he] at c'; exact c'.elim
    | ex y μ1 => exact ⟨_, mkP (fun _ _ _ => False) (fun _ _ _ _ _ _ _ _ _ h => h.elim), go _ fun ds μ1 z => by rw [he] at z; cases z⟩
    | ok ds μ1 =>
      rw [he] at c'
      obtain ⟨r, h1, h2⟩ := bi_rule (q := q) (W := W) x hk (ds := ds) (μ := μ1) c'.ok
      exact ⟨_, mkP r h1, go r fun ds' μ1' z => by rw [he] at z; cases z; exact h2⟩
/-! ### subscripts, slices -/
theorem atI_ok {T : Nam} {ι : List Addr} {G : Hp} {vs : List V} {ds : List D} (r : RepL T ι G vs ds) {i : Int} {d : D} (h : atI ds i = some d) : ∃ v, atI vs i = some v ∧ RepD T ι G v d := by
  unfold atI at h ⊢
  rw [r.length]
  obtain ⟨j, h1, h2⟩ := Option.bind_eq_some_iff.mp h
  obtain ⟨v, h3, h4⟩ := r.get h2
  exact ⟨v, by rw [h1]; exact h3, h4⟩
theorem atI_mem {l : List Nat} {i : Int} {c : Nat} (h : atI l i = some c) : c ∈ l := by
  unfold atI at h
  obtain ⟨j, h1, h2⟩ := Option.bind_eq_some_iff.mp h
  exact List.mem_of_getElem? h2
theorem strK1 {c : Nat} (h : c < 0x110000) : strK ⟨#[c]⟩ := fun d hd => by
  have : d = c := by simpa using hd
  rw [this]
  exact h
theorem se_ix {a b : CE} {e i : Expr} {pos : Pos} (x : XOk q sc N W X) (ha : PE X e (tE q W a)) (hb : PE X i (tE q W b)) (hp : plE i = true) (hs : NoSl i) : PE X (.Subscript e i pos) (tE q W (.ix a b)) := by
  refine two_ok (f := fun d e μ => ixS μ d e) ⟨_, pe_ix ix_list ha hb (pl_ix hp)⟩ (fun d e μ hb0 => ?_) fun σ H Q ⟨env, μ, ι, G, R, S, c⟩ => ⟨env, μ, ι, G, R, S, c⟩
  cases hd : dicOf μ d with
  | some p =>
    obtain ⟨t, kvs⟩ := p
    refine ⟨fun x y H Q => ∃ a v, x = .ref a ∧ DGet H a y (some v) ∧ Q v H, pe_dget x.hu1 ha hb hs, fun v y ι G H σ Q R r1 r2 c => ?_⟩
    have c' : Ct q.T W σ ι G (ixS μ d e) Q := c
    simp only [ixS, hd] at c'
    split at c'
    · rename_i hk
      obtain ⟨d2, hf, c2⟩ := c'.ofO
      obtain ⟨a2, o, rfl, h2, h3⟩ := key_at R r1 r2 hd hk
      simp only [hf] at h3
      obtain ⟨u, rfl, ru⟩ := h3
      exact ⟨a2, u, rfl, h2, ct_val c2 R ru⟩
    · exact c'.elim
  | none =>
    cases e with
    | int j =>
      cases hd2 : seqOf μ d with
      | some xs =>
        refine ⟨rIx X.K, pe_ix ix_seq ha hb (pl_ix hp), fun v y ι G H σ Q R r1 r2 c => ?_⟩
        have c' : Ct q.T W σ ι G (ixS μ d (.int j)) Q := c
        have e1 : ixS μ d (.int j) = ofO (atI xs j) μ := by cases d <;> simp_all [ixS, seqOf, dicOf, lstOf]
        rw [e1] at c'
        obtain ⟨d2, hf, c2⟩ := c'.ofO
        obtain ⟨a2, us, rfl, h2, h3⟩ := R.seqOf r1 hd2
        obtain ⟨u, hu, ru⟩ := atI_ok h3 hf
        cases r2
        rcases h2 with h2 | h2
        · exact .inl ⟨a2, us, j, u, rfl, rfl, by rw [x.eK]; exact h2, hu, ct_val c2 R ru⟩
        · exact .inr (.inl ⟨a2, us, j, u, rfl, rfl, by rw [x.eK]; exact h2, hu, ct_val c2 R ru⟩)
      | none =>
        cases d with
        | str z =>
          refine ⟨rIxS, pe_ix ix_str ha hb (pl_ix hp), fun v y ι G H σ Q R r1 r2 c => ?_⟩
          have c' : Ct q.T W σ ι G (if sz z.length then ofO ((atI z.cps.toList j).map fun c => .str ⟨#[c]⟩) μ else .bad) Q := c
          split at c'
          · rename_i hz
            obtain ⟨d2, hf, c2⟩ := c'.ofO
            obtain ⟨ch, h1, rfl⟩ := Option.map_eq_some_iff.mp hf
            cases r1 with
            | str k =>
              cases r2
              exact ⟨z, j, ch, rfl, rfl, flip_len hz, h1, ct_val c2 R (.str (strK1 (k ch (atI_mem h1))))⟩
          · exact c'.elim
        | tup _ => cases hd2
        | wtup _ => cases hd2
        | lst _ => cases hd2
        | _ => exact absurd (by simp [ixS, hd, hd2]) hb0
    | _ => exact absurd (by simp [ixS, hd]) hb0
end Co

set_option linter.all false
set_option maxRecDepth 100000
set_option Elab.async false
/-! Co12: the other expressions. -/
namespace Co
open PySem L2
variable {q : Cq} {sc : Scope} {N : List Str} {W : WX} {X : Cx}
/-! ### isinstance -/
theorem kd_of {T : Nam} {ι : List Addr} {G H : Hp} {μ : Store} (R : RelH T ι G μ H) {v : V} {d : D} (r : RepD T ι G v d) {k : Kd} (h : kindOf μ d = some k) :
    (∃ n, k = .ty n ∧ n ∈ ["NoneType", "bool", "int", "str", "tuple", "list", "dict"] ∧ TyX T.K H v (.type n)) ∨ ∃ c a dx fs, k = .own c ∧ v = .ref a ∧ H a = some (.ins (T.cA c) dx fs) := by
  cases r with
  | non => cases h; exact .inl ⟨_, rfl, by decide, .base .non⟩
  | bl b => cases h; exact .inl ⟨_, rfl, by decide, .base (.bl b)⟩
  | int b => cases h; exact .inl ⟨_, rfl, by decide, .base (.int b)⟩
  | str b => cases h; exact .inl ⟨_, rfl, by decide, .base (.str _)⟩
  | tup e l => cases h; exact .inl ⟨_, rfl, by decide, .base (.tup (R.fz.tup e))⟩
  | wtup e l =>
    cases h
    refine .inl ⟨_, rfl, by decide, ?_⟩
    rcases R.fz.sqt e with (z | ⟨o, z⟩) | ⟨o, its, n, z1, z2, _⟩
    · exact .base (.tup z)
    · exact .fTuple z
    · exact .kTuple z1 z2
  | lst e l =>
    cases h
    refine .inl ⟨_, rfl, by decide, ?_⟩
    rcases R.fz.rdl e with z | ⟨o, z⟩
    · exact .base (.lst z)
    · exact .base (.frz z)
  | dicK e l =>
    cases h
    refine .inl ⟨_, rfl, by decide, ?_⟩
    exact .fDict (R.fz.dk e)
  | dicT e l => cases h
  | ins e l => cases h; exact .inr ⟨_, _, _, _, rfl, rfl, R.fz.ins e⟩
  | cell hi =>
    rename_i a i
    cases hc : μ[i]? with
    | none => simp only [kindOf, hc] at h; cases h
    | some c =>
      have hca := R.cel i a c hi hc
      cases hca with
      | dead => simp only [kindOf, hc] at h; cases h
      | lst h1 h2 h3 => simp only [kindOf, hc] at h; cases h; exact .inl ⟨_, rfl, by decide, .base (.lst h2)⟩
      | dicK h1 h2 h3 => simp only [kindOf, hc] at h; cases h; exact .inl ⟨_, rfl, by decide, .base (.dK h2)⟩
      | dicT h1 h2 h3 => simp only [kindOf, hc] at h; cases h; exact .inl ⟨_, rfl, by decide, .base (.dT h2)⟩
      | ins h1 h2 h3 => simp only [kindOf, hc] at h; cases h; exact .inr ⟨_, _, _, _, rfl, rfl, h2⟩
      | ldicK h1 h2 h3 => simp only [kindOf, hc] at h; cases h
      | ldicT h1 h2 h3 => simp only [kindOf, hc] at h; cases h
      | clo _ _ _ _ _ _ _ => simp only [kindOf, hc] at h; cases h
theorem tyx_of (x : XOk q sc N W X) {ι : List Addr} {G H : Hp} {μ : Store} (R : RelH q.T ι G μ H) {v : V} {d : D} (r : RepD q.T ι G v d) {k : Kd} (h : kindOf μ d = some k) (hk : kdOk q k = true) : TyX q.T.K H v (kdV q k) := by
  rcases kd_of R r h with ⟨n, rfl, _, h2⟩ | ⟨c, a, dx, fs, rfl, rfl, h3⟩
  · exact h2
  · exact .base (x.lk.ity c hk H a dx fs h3)
/-- the class that is named in isinstance -/
def tyName : Ty → Str
  | .own _ => ""
  | .int => "int"
  | .bool => "bool"
  | .str => "str"
  | .list => "list"
  | .tuple => "tuple"
  | .dict => "dict"
def okTy (q : Cq) (sc : Scope) (t : Ty) : Expr → Bool
  | .Name x _ => glB sc x && !dbgB x && (match t with
    | .own c => decide (q.tx.cnm.lookup x = some c) && decide (c < q.P.sub.length)
    | t => decide (x = tyName t))
  | _ => false
theorem isi_lit (t : Ty) (ht : ∀ c, t ≠ .own c) : tyName t ∈ blts ∧ bootBuiltins (tyName t) = some (.type (tyN t)) := by
  cases t with
  | own c => exact absurd rfl (ht c)
  | int => exact ⟨by decide, by decide +kernel⟩
  | bool => exact ⟨by decide, by decide +kernel⟩
  | str => exact ⟨by decide, by decide +kernel⟩
  | list => exact ⟨by decide, by decide +kernel⟩
  | tuple => exact ⟨by decide, by decide +kernel⟩
  | dict => exact ⟨by decide, by decide +kernel⟩
def tyVV (q : Cq) : Ty → V
  | .own c => .ref (q.T.cA c)
  | t => .ty (tyN t)
theorem clsV_ty (q : Cq) (t : Ty) : ClsV (tyVV q t) (tyV' q t) := by cases t <;> constructor
theorem pe_ty (x : XOk q sc N W X) {t : Ty} {e : Expr} (h : okTy q sc t e = true) : PE X e (tC (tyVV q t)) ∧ plE e = true ∧ tyOk q t = true := by
  cases e <;> first | exact Bool.noConfusion h | skip
  rename_i y pos
  simp only [okTy, Bool.and_eq_true, Bool.not_eq_true'] at h
  refine ⟨?_, rfl, ?_⟩
  · have main : ∀ t : Ty, (∀ c, t ≠ .own c) → y = tyName t → PE X (.Name y pos) (tC (.ty (tyN t))) := fun t ht e => by
      have k := isi_lit t ht
      subst e
      exact pe_bltn (x.gl h.1.1) (x.lk.blt _ k.1) k.2 rfl (dbg3 h.1.2) (dbg1 h.1.2)
    cases t with
    | own c =>
      simp only [decide_eq_true_eq, Bool.and_eq_true] at h
      exact pe_glob (x.gl h.1.1) (x.lk.cls _ _ h.2.1) rfl (dbg1 h.1.2)
    | int => exact main .int (fun c z => by cases z) (of_decide_eq_true h.2)
    | bool => exact main .bool (fun c z => by cases z) (of_decide_eq_true h.2)
    | str => exact main .str (fun c z => by cases z) (of_decide_eq_true h.2)
    | list => exact main .list (fun c z => by cases z) (of_decide_eq_true h.2)
    | tuple => exact main .tuple (fun c z => by cases z) (of_decide_eq_true h.2)
    | dict => exact main .dict (fun c z => by cases z) (of_decide_eq_true h.2)
  · cases t with
    | own c => simp only [Bool.and_eq_true] at h; exact h.2.2
    | _ => rfl
theorem isi_one (x : XOk q sc N W X) {μ : Store} {d : D} {t : Ty} {b : Bool} (h : isi q.P.sub μ d t = some b) {ι : List Addr} {G H : Hp} (R : RelH q.T ι G μ H) {v : V} (r : RepD q.T ι G v d) :
    ∃ k, kindOf μ d = some k ∧ b = isiK q.P.sub k t ∧ kdOk q k = true ∧ TyX q.T.K H v (kdV q k) := by
  unfold isi at h
  obtain ⟨k, h1, h2⟩ := Option.bind_eq_some_iff.mp h
  split at h2
  · rename_i hk
    cases h2
    have hk2 : kdOk q k = true := by
      rcases kd_of R r h1 with ⟨n, rfl, hn, _⟩ | ⟨c, a, dx, fs, rfl, rfl, h3⟩
      · unfold kdOk
        simpa using hn
      · unfold kdOk
        have := of_decide_eq_true hk
        exact decide_eq_true this
    exact ⟨k, h1, rfl, hk2, tyx_of x R r h1 hk2⟩
  · cases h2
theorem isi_any (x : XOk q sc N W X) {μ : Store} {d : D} {ι : List Addr} {G H : Hp} (R : RelH q.T ι G μ H) {v : V} (r : RepD q.T ι G v d) : ∀ {ts : List Ty} {b : Bool}, ts.all (tyOk q) = true → isiS q.P.sub μ d ts = some b → ts ≠ [] →
    ∃ k, kindOf μ d = some k ∧ kdOk q k = true ∧ TyX q.T.K H v (kdV q k) ∧ PySem.W.kitAny q.T.K (kdV q k) (ts.map (tyV' q)) = some b
  | [], _, _, _, hn => absurd rfl hn
  | t :: ts, b, ha, h, _ => by
    rw [List.all_cons, Bool.and_eq_true] at ha
    unfold isiS at h
    rw [List.foldr_cons] at h
    cases h1 : isi q.P.sub μ d t with
    | none => rw [h1] at h; cases h
    | some c =>
      obtain ⟨k, k1, k2, k3, k4⟩ := isi_one x h1 R r
      have e1 := x.lk.kit k t k3 ha.1
      rw [← k2] at e1
      refine ⟨k, k1, k3, k4, ?_⟩
      rw [h1] at h
      cases c with
      | true =>
        cases h
        exact kitAny_cons e1 (fun z => by cases z) fun _ => rfl
      | false =>
        have h' : isiS q.P.sub μ d ts = some b := h
        refine kitAny_cons e1 (fun _ => ?_) fun z => by cases z
        cases ts with
        | nil => cases h'; exact kitAny_nil
        | cons t2 ts =>
          obtain ⟨k', k1', _, _, k4'⟩ := isi_any x R r ha.2 h' (by simp)
          rw [k1] at k1'
          cases k1'
          exact k4'
def okTys (q : Cq) (sc : Scope) : List Ty → List Expr → Bool
  | [], [] => true
  | t :: ts, e :: es => okTy q sc t e && okTys q sc ts es
  | _, _ => false
theorem pa_tys (x : XOk q sc N W X) : ∀ {ts : List Ty} {es : List Expr}, okTys q sc ts es = true → ∃ t, PA X es t ∧ (∀ σ H Q, Q (ts.map (tyVV q)) H → t σ H Q) ∧ es.all plE = true ∧ ts.all (tyOk q) = true
  | [], [], _ => ⟨_, pa_nil, fun σ H Q h => h, rfl, rfl⟩
  | t :: ts, e :: es, h => by
    unfold okTys at h
    rw [Bool.and_eq_true] at h
    obtain ⟨p1, p2, p3⟩ := pe_ty x h.1
    obtain ⟨u, u1, u2, u3, u4⟩ := pa_tys x h.2
    exact ⟨_, pa_cons p1 u1 (pl_star p2 es _), fun σ H Q hq => u2 σ H _ hq, by rw [List.all_cons, p2, u3]; rfl, by rw [List.all_cons, p3, u4]; rfl⟩
  | [], _ :: _, h => by cases h
  | _ :: _, [], h => by cases h
theorem paired_ty (q : Cq) : ∀ ts : List Ty, Paired ClsV (ts.map (tyVV q)) (ts.map (tyV' q))
  | [] => .nil
  | t :: ts => .cons (clsV_ty q t) (paired_ty q ts)
/-- the types in isinstance: one, or a tuple of them -/
def okIsi (q : Cq) (sc : Scope) (ts : List Ty) : Expr → Bool
  | .Tuple es _ _ => okTys q sc ts es && !ts.isEmpty && decide (ts.length ≤ 100)
  | e => match ts with
    | [t] => okTy q sc t e
    | _ => false
theorem se_isi {a : CE} {ts : List Ty} {e e2 : Expr} {p pos : Pos} (x : XOk q sc N W X) (hg : glB sc "isinstance" = true) (h : PE X e (tE q W a)) (hp : plE e = true) (hi : okIsi q sc ts e2 = true) :
    PE X (.Call (.Name "isinstance" p) [e, e2] [] pos) (tE q W (.isi a ts)) := by
  have mkP : ∀ (r : List V → Hp → VK → Prop) t2, CallR X (.builtin "isinstance") r → PE X e2 t2 → plE e2 = true → PE X (.Call (.Name "isinstance" p) [e, e2] [] pos) (tCB r (tCons (tE q W a) (tCons t2 tNil))) := fun r t2 hr h2 p2 =>
    pe_callB hr (x.gl hg) (x.lk.blt _ (by decide)) (by decide +kernel) (pa_cons h (pa_cons h2 pa_nil (pl_star p2 _ _)) (pl_star hp _ _)) (by decide) (by decide) (pl_star hp _ _) (pl_any (by rw [List.all_cons, p2]; rfl))
  have c0 : ∀ {σ : L2.St} {Q : VK} {env : Env} {μ : Store} {ι : List Addr} {G : Hp}, Ct q.T W σ ι G (evE q.P q.call (.isi a ts) env μ) Q → Ct q.T W σ ι G ((evE q.P q.call a env μ).bind fun d μ => ofO ((isiS q.P.sub μ d ts).map D.bl) μ) Q := fun h => h
  have split1 : ∀ e2, okIsi q sc ts e2 = true → (∃ es k pp, e2 = .Tuple es k pp) ∨ ∃ t, ts = [t] ∧ okTy q sc t e2 = true := fun e2 hi => by
    cases e2 with
    | Tuple es k pp => exact .inl ⟨es, k, pp, rfl⟩
    | _ =>
      refine .inr ?_
      unfold okIsi at hi
      simp only at hi
      split at hi
      · exact ⟨_, rfl, hi⟩
      · cases hi
  rcases split1 e2 hi with ⟨es, k, pp, rfl⟩ | ⟨t, rfl, ht⟩
  · simp only [okIsi, Bool.and_eq_true, Bool.not_eq_true', List.isEmpty_eq_false_iff, decide_eq_true_eq] at hi
    obtain ⟨u, u1, u2, u3, u4⟩ := pa_tys x hi.1.1
    refine PE.dyn fun σ H Q ⟨env, μ, ι, G, R, S, c⟩ => ⟨_, mkP _ _ call_isiT (pe_tup u1) rfl, env, μ, ι, G, R, S, GCt.bind (c0 c) fun d μ1 v ι1 G1 H1 _ g r1 rv c1 => u2 _ _ _ ⟨?_, fun tp hn => ?_⟩⟩
    · rw [List.length_map]
      exact Nat.le_trans hi.2 (by decide)
    · obtain ⟨b', hb, c2⟩ := c1.ofO
      obtain ⟨b, hb2, rfl⟩ := Option.map_eq_some_iff.mp hb
      have r2 := r1.other (.tup (ts.map (tyVV q))) hn
      obtain ⟨k, k1, k2, k3, k4⟩ := isi_any x r2 rv u4 hb2 hi.1.2
      refine ⟨v, tp, ts.map (tyVV q), kdV q k, ts.map (tyV' q), b, rfl, upd_same, paired_ty q ts, by rw [x.eK]; exact k3, by rw [x.eK]; exact k4, ct_val c2 r2 (.bl b)⟩
  · obtain ⟨p1, p2, p3⟩ := pe_ty x ht
    refine PE.dyn fun σ H Q ⟨env, μ, ι, G, R, S, c⟩ => ⟨_, mkP _ _ call_isi p1 p2, env, μ, ι, G, R, S, GCt.bind (c0 c) fun d μ1 v ι1 G1 H1 _ g r1 rv c1 => ?_⟩
    obtain ⟨b', hb, c2⟩ := c1.ofO
    obtain ⟨b, hb2, rfl⟩ := Option.map_eq_some_iff.mp hb
    have h1 : isi q.P.sub μ1 d t = some b := by
      unfold isiS at hb2
      rw [List.foldr_cons, List.foldr_nil] at hb2
      cases h1 : isi q.P.sub μ1 d t with
      | none => rw [h1] at hb2; cases hb2
      | some c => rw [h1] at hb2; cases c <;> exact hb2
    obtain ⟨k, k1, k2, k3, k4⟩ := isi_one x h1 r1 rv
    have e1 := x.lk.kit k t k3 p3
    rw [← k2] at e1
    exact ⟨v, tyVV q t, kdV q k, tyV' q t, b, rfl, clsV_ty q t, by rw [x.eK]; exact k4, by rw [x.eK]; exact e1, ct_val c2 r1 (.bl b)⟩
end Co

set_option linter.all false
set_option maxRecDepth 100000
set_option Elab.async false
/-! Co13: names, constants, truth, slices, displays. -/
namespace Co
open PySem L2
variable {q : Cq} {sc : Scope} {N : List Str} {W : WX} {X : Cx}
/-! ### names, constants -/
theorem se_var {i : Nat} {y : Str} {pos : Pos} (x : XOk q sc N W X) (hN : N[i]? = some y) (hv : visB sc y = true) (hd : dbgB y = false) : PE X (.Name y pos) (tE q W (.var i)) := by
  refine PE.dyn fun σ H Q ⟨env, μ, ι, G, R, S, c⟩ => ⟨_, pe_var (i := i) (by rw [x.eN]; exact hN) (x.vis hv) (dbg1 hd) (dbg2 hd), ?_⟩
  obtain ⟨d, h1, c2⟩ := GCt.ofO (o := getV env i) c
  obtain ⟨v, h2, h3⟩ := S.at_ i d (getV_some h1)
  exact ⟨v, h2, ct_val c2 R h3⟩
theorem se_glo {j : Nat} {y : Str} {pos : Pos} (x : XOk q sc N W X) (hg : glB sc y = true) (hl : q.tx.gnm.lookup y = some j) (hd : dbgB y = false) : PE X (.Name y pos) (tE q W (.glo j)) := by
  refine PE.dyn fun σ H Q ⟨env, μ, ι, G, R, S, c⟩ => ?_
  obtain ⟨d, h1, c2⟩ := GCt.ofO (o := q.P.consts[j]?) c
  obtain ⟨v, u, hm, hr, hrep⟩ := x.lk.con y j d hl h1
  exact ⟨_, pe_glob (x.gl hg) hm hr (dbg1 hd), ct_val c2 R (hrep ι G)⟩
def litB : Const → D → Bool
  | .none, d => decide (d = .non)
  | .bool b, d => decide (d = .bl b)
  | .int i, d => decide (d = .int i)
  | .str x, d => decide (d = .str x) && x.cps.toList.all fun c => decide (c < 0x110000)
  | _, _ => false
theorem se_lit {k : Const} {d : D} {j : Nat} {pos : Pos} (h : litB k d = true) : PE X (.Constant k j pos) (tE q W (.lit d)) := by
  cases k <;> first | exact Bool.noConfusion h | skip
  · have e := of_decide_eq_true h
    subst e
    exact PE.dyn fun σ H Q ⟨env, μ, ι, G, R, S, c⟩ => ⟨_, pe_non, ct_val c R .non⟩
  · have e := of_decide_eq_true h
    subst e
    exact PE.dyn fun σ H Q ⟨env, μ, ι, G, R, S, c⟩ => ⟨_, pe_bl, ct_val c R (.bl _)⟩
  · have e := of_decide_eq_true h
    subst e
    exact PE.dyn fun σ H Q ⟨env, μ, ι, G, R, S, c⟩ => ⟨_, pe_int, ct_val c R (.int _)⟩
  · simp only [litB, Bool.and_eq_true] at h
    have e := of_decide_eq_true h.1
    subst e
    exact PE.dyn fun σ H Q ⟨env, μ, ι, G, R, S, c⟩ => ⟨_, pe_str, ct_val c R (.str fun c hc => of_decide_eq_true (List.all_eq_true.mp h.2 c hc))⟩
/-! ### operators -/
theorem se_bin {o : BinO} {op : Operator} {a b : CE} {e f : Expr} {pos : Pos} (x : XOk q sc N W X) (ho : oBin op = some o) (ha : PE X e (tE q W a)) (hb : PE X f (tE q W b)) : PE X (.BinOp e op f pos) (tE q W (.bin o a b)) := by
  refine two_ok (f := fun d e μ => binS μ o d e) ⟨fun _ _ _ _ => False, pe_op (fun _ _ _ _ _ _ _ _ _ _ _ _ h => h.elim) ha hb⟩ (fun d e μ hb0 => ?_) fun σ H Q ⟨env, μ, ι, G, R, S, c⟩ => ⟨env, μ, ι, G, R, S, c⟩
  obtain ⟨R, h1, h2⟩ := bin_op (q := q) (W := W) (X := X) ho d e μ hb0
  exact ⟨R, pe_op h1 ha hb, h2⟩
theorem se_neg {a : CE} {e : Expr} {pos : Pos} (ha : PE X e (tE q W a)) : PE X (.UnaryOp .USub e pos) (tE q W (.neg a)) := by
  refine PE.dyn fun σ H Q ⟨env, μ, ι, G, R, S, c⟩ => ⟨_, pe_un un_neg ha, env, μ, ι, G, R, S, ?_⟩
  have c' : Ct q.T W σ ι G ((evE q.P q.call a env μ).bind fun d μ => match d with
    | .int i => .ok (.int (-i)) μ
    | _ => .bad) Q := c
  refine GCt.bind c' fun d μ1 v ι1 G1 H1 _ g r rv c1 => ?_
  cases rv with
  | int i => exact ⟨i, rfl, ct_val c1 r (.int _)⟩
  | _ => exact c1.elim
/-- a comparison: as a value, and as a test -/
theorem cmp_both {o : CmpO} {op : CmpOp} {a b : CE} {e f : Expr} {pos : Pos} (x : XOk q sc N W X) (ho : oCmp op = some o) (ha : PE X e (tE q W a)) (hb : PE X f (tE q W b)) (hp : plE f = true) {σ : L2.St} {H : Hp} {env : Env} {μ : Store} {ι : List Addr} {G : Hp} (R : RelH q.T ι G μ H) (S : RelS q.T ι G env σ)
    {Q : VK} (c : Ct q.T W σ ι G (evE q.P q.call (.cmp o a b) env μ) Q) : ∃ R2, CmpX X op e f R2 ∧ tOp R2 (tE q W a) (tE q W b) σ H Q := by
  have c' : Ct q.T W σ ι G ((evE q.P q.call a env μ).bind fun d μ => (evE q.P q.call b env μ).bind fun e μ => ofO ((cmpS μ o d e).map D.bl) μ) Q := c
  have hu : X.A.units + 100 < cLine := by have := x.room.un; omega
  have main : ∀ R2 : R2, (∀ d μ1 e μ2 b', evE q.P q.call a env μ = .ok d μ1 → evE q.P q.call b env μ1 = .ok e μ2 → cmpS μ2 o d e = some b' → Cmp2 q μ2 R2 d e b') → tOp R2 (tE q W a) (tE q W b) σ H Q := fun R2 hr =>
    ⟨env, μ, ι, G, R, S, GCt.bind c' fun d μ1 v ι1 G1 H1 ea g1 r1 d1 c1 => ⟨env, μ1, ι1, G1, r1, S.mono g1, GCt.bind c1 fun e μ2 y ι2 G2 H2 eb g2 r2 d2 c2 => by
      obtain ⟨b2, hb2, c3⟩ := c2.ofO
      obtain ⟨b3, hb3, rfl⟩ := Option.map_eq_some_iff.mp hb2
      exact hr d μ1 e μ2 b3 ea eb hb3 v y ι2 G2 H2 Q r2 (d1.mono g2) d2 (ct_val c3 r2 (.bl _))⟩⟩
  have triv : CmpX X op e f (fun _ _ _ _ => False) := cmpx_op (fun _ _ _ _ _ _ _ _ _ _ _ _ h => h.elim) e f
  cases ea : evE q.P q.call a env μ with
  | bad => rw [ea] at c'; exact c'.elim
  | ex y μ1 => exact ⟨_, triv, main _ fun d μ1 e μ2 b' z => by rw [ea] at z; cases z⟩
  | ok d μ1 => cases eb : evE q.P q.call b env μ1 with
    | bad => rw [ea, Res.bind_ok, eb] at c'; exact c'.elim
    | ex y μ2 => exact ⟨_, triv, main _ fun d' μ1' e μ2 b' z1 z2 => by rw [ea] at z1; cases z1; rw [eb] at z2; cases z2⟩
    | ok e2 μ2 =>
      rw [ea, Res.bind_ok, eb, Res.bind_ok] at c'
      obtain ⟨b2, hb2, _⟩ := c'.ofO
      obtain ⟨b3, hb3, rfl⟩ := Option.map_eq_some_iff.mp hb2
      obtain ⟨R2, h1, h2⟩ := cmp_op (q := q) (X := X) hu x.eK ho hb3 e f
      refine ⟨R2, h1, main R2 fun d' μ1' e' μ2' b' z1 z2 z3 => ?_⟩
      rw [ea] at z1
      cases z1
      rw [eb] at z2
      cases z2
      rw [hb3] at z3
      cases z3
      exact h2
theorem se_cmp {o : CmpO} {op : CmpOp} {a b : CE} {e f : Expr} {pos : Pos} (x : XOk q sc N W X) (ho : oCmp op = some o) (ha : PE X e (tE q W a)) (hb : PE X f (tE q W b)) (hp : plE f = true) : PE X (.Compare e [op] [f] pos) (tE q W (.cmp o a b)) := by
  refine PE.dyn fun σ H Q ⟨env, μ, ι, G, R, S, c⟩ => ?_
  obtain ⟨R2, h1, h2⟩ := cmp_both (pos := pos) x ho ha hb hp R S c
  exact ⟨_, (h1 _ _ pos ha hb hp).1, h2⟩
theorem bOf_bl {r : RD} {f : D → Store → RD} (h : ∀ d μ, f d μ = .bad ∨ ∃ b, f d μ = .ok (.bl b) μ) : True := trivial
/-- from a test on a value that is True or False -/
theorem test_bl {T : Nam} {W : WX} {σ : L2.St} {ι : List Addr} {G : Hp} {r : RD} {Q : Bool → Hp → Prop} (c : GCt T RepB W σ ι G (bOf r) Q) : Ct T W σ ι G r (fun v H => ∀ k, v = .bl k → Q k H) := by
  cases r with
  | ok d μ =>
    intro v ι' G' H g R rv k hk
    subst hk
    cases rv
    exact c k ι' G' H g R rfl
  | ex y μ => exact c
  | bad => exact c
theorem st_cmp {o : CmpO} {op : CmpOp} {a b : CE} {e f : Expr} {pos : Pos} (x : XOk q sc N W X) (ho : oCmp op = some o) (ha : PE X e (tE q W a)) (hb : PE X f (tE q W b)) (hp : plE f = true) : PT X (.Compare e [op] [f] pos) (tT q W (.cmp o a b)) := by
  refine PT.dyn fun σ H Q ⟨env, μ, ι, G, R, S, c⟩ => ?_
  -- the value is a truth
  have c2 : Ct q.T W σ ι G (evE q.P q.call (.cmp o a b) env μ) (fun v H => ∃ k, v = .bl k ∧ Q k H) := by
    have e0 : evE q.P q.call (.cmp o a b) env μ = (evE q.P q.call a env μ).bind fun d μ => (evE q.P q.call b env μ).bind fun e μ => ofO ((cmpS μ o d e).map D.bl) μ := rfl
    rw [e0] at c ⊢
    cases ea : evE q.P q.call a env μ with
    | bad => rw [ea] at c; exact c
    | ex y μ1 => rw [ea] at c; exact c
    | ok d μ1 =>
      rw [ea] at c
      simp only [Res.bind_ok] at c ⊢
      cases eb : evE q.P q.call b env μ1 with
      | bad => rw [eb] at c; exact c
      | ex y μ2 => rw [eb] at c; exact c
      | ok e2 μ2 =>
        rw [eb] at c
        simp only [Res.bind_ok] at c ⊢
        cases hc : cmpS μ2 o d e2 with
        | none => rw [hc] at c; exact c
        | some b2 =>
          rw [hc] at c
          intro v ι' G' H' g R' rv
          cases rv
          exact ⟨_, rfl, c b2 ι' G' H' g R' rfl⟩
  obtain ⟨R2, h1, h2⟩ := cmp_both (pos := pos) x ho ha hb hp R S c2
  exact ⟨_, (h1 _ _ pos ha hb hp).2, h2⟩
/-! ### truth -/
theorem tru_of {T : Nam} {ι : List Addr} {G H : Hp} {μ : Store} (R : RelH T ι G μ H) {v : V} {d : D} (r : RepD T ι G v d) {b : Bool} (h : truth μ d = some b) : TruV T.K v H b := by
  have viaL : ∀ (v : V) (d : D) xs, RepD T ι G v d → lstOf μ d = some xs → b = !xs.isEmpty → TruV T.K v H b := fun v d xs rd hl e => by
    obtain ⟨a, us, rfl, h1, h2⟩ := R.lstOf rd hl
    refine .inl ⟨us, .inl h1, ?_⟩
    rw [e]
    have := h2.length
    cases us <;> cases xs <;> simp_all
  have emp : ∀ (us : List V) (xs : List D), RepL T ι G us xs → (!us.isEmpty) = !xs.isEmpty := fun us xs r => by
    have := r.length
    cases us <;> cases xs <;> simp_all
  cases r with
  | non => cases h; rfl
  | bl c => cases h; rfl
  | int i => cases h; rfl
  | str k =>
    simp only [truth] at h
    split at h
    · rename_i hz
      cases h
      refine ⟨flip_len hz, ?_⟩
      rename_i y
      cases hy : y.length with
      | zero => rfl
      | succ n =>
        show (n + 1 != 0) = (((n + 1 : Nat) : Int) != 0)
        have : ((n + 1 : Nat) : Int) ≠ 0 := by omega
        simp [bne, this]
        omega
    · cases h
  | tup e l => cases h; exact .inr (.inl ⟨_, .inl (.inl (R.fz.tup e)), (emp _ _ l).symm⟩)
  | wtup e l => cases h; exact .inr (.inl ⟨_, R.fz.sqt e, (emp _ _ l).symm⟩)
  | lst e l => cases h; exact viaL _ _ _ (.lst e l) rfl rfl
  | cell hi =>
    rename_i a i
    cases hl : lstOf μ (.cell i) with
    | none => simp only [truth, hl] at h; cases h
    | some xs => simp only [truth, hl, Option.some.injEq] at h; exact viaL _ _ xs (.cell hi) hl h.symm
  | _ => cases h
/-- any expression that isn't told apart in a test -/
def genT : Expr → Bool
  | .BoolOp .. => false
  | .UnaryOp .. => false
  | .IfExp .. => false
  | .Compare .. => false
  | e => plE e
theorem st_gen {a : CE} {e : Expr} (x : XOk q sc N W X) (h : PE X e (tE q W a)) (hg : genT e = true) : PT X e (tT q W a) := by
  have he : ∀ whole, isTrue e X.env whole = (do let v ← whole; standAt e.pos; holding [v] (truthy v)) := fun whole => by
    cases e <;> first | rfl | exact Bool.noConfusion hg
  refine PT.dyn fun σ H Q ⟨env, μ, ι, G, R, S, c⟩ => ⟨_, pt_truth h he, env, μ, ι, G, R, S, ?_⟩
  refine GCt.bind c fun d μ1 v ι1 G1 H1 _ g r rv c1 => ?_
  obtain ⟨b, hb, c2⟩ := c1.ofO
  exact ⟨b, by rw [x.eK]; exact tru_of r rv hb, c2 b ι1 G1 H1 (Grow.refl _ _) r rfl⟩
end Co

set_option linter.all false
set_option maxRecDepth 100000
set_option Elab.async false
/-! Co14: and, or, not, chains, slices, displays. -/
namespace Co
open PySem L2
variable {q : Cq} {sc : Scope} {N : List Str} {W : WX} {X : Cx}
theorem se_and {a b : CE} {e f : Expr} {r : List Expr} {pos : Pos} (x : XOk q sc N W X) (ha : PE X e (tE q W a)) (hb : PE X (.BoolOp .And (f :: r) pos) (tE q W b)) : PE X (.BoolOp .And (e :: f :: r) pos) (tE q W (.and a b)) := by
  refine PE.dyn fun σ H Q ⟨env, μ, ι, G, R, S, c⟩ => ⟨_, pe_andT ha hb, env, μ, ι, G, R, S, ?_⟩
  have c' : Ct q.T W σ ι G ((evE q.P q.call a env μ).bind fun d μ => kAnd2 q.P q.call d (truth μ d) b env μ) Q := c
  refine GCt.bind c' fun d μ1 v ι1 G1 H1 _ g r rv c1 => ?_
  cases ht : truth μ1 d with
  | none => rw [ht] at c1; exact c1.elim
  | some k =>
    rw [ht] at c1
    refine ⟨k, by rw [x.eK]; exact tru_of r rv ht, ?_⟩
    cases k with
    | true => exact iteT ⟨env, μ1, ι1, G1, r, S.mono g, c1⟩
    | false => exact iteF (ct_val c1 r rv)
theorem se_or {a b : CE} {e f : Expr} {r : List Expr} {pos : Pos} (x : XOk q sc N W X) (ha : PE X e (tE q W a)) (hb : PE X (.BoolOp .Or (f :: r) pos) (tE q W b)) : PE X (.BoolOp .Or (e :: f :: r) pos) (tE q W (.or a b)) := by
  refine PE.dyn fun σ H Q ⟨env, μ, ι, G, R, S, c⟩ => ⟨_, pe_orT ha hb, env, μ, ι, G, R, S, ?_⟩
  have c' : Ct q.T W σ ι G ((evE q.P q.call a env μ).bind fun d μ => kOr2 q.P q.call d (truth μ d) b env μ) Q := c
  refine GCt.bind c' fun d μ1 v ι1 G1 H1 _ g r rv c1 => ?_
  cases ht : truth μ1 d with
  | none => rw [ht] at c1; exact c1.elim
  | some k =>
    rw [ht] at c1
    refine ⟨k, by rw [x.eK]; exact tru_of r rv ht, ?_⟩
    cases k with
    | true => exact iteT (ct_val c1 r rv)
    | false => exact iteF ⟨env, μ1, ι1, G1, r, S.mono g, c1⟩
theorem bOf_bind (r : RD) (F : D → Store → RD) : bOf (r.bind F) = r.bind fun d μ => bOf (F d μ) := by cases r <;> rfl
theorem st_and {a b : CE} {e f : Expr} {r : List Expr} {pos : Pos} (ha : PT X e (tT q W a)) (hb : PT X (.BoolOp .And (f :: r) pos) (tT q W b)) : PT X (.BoolOp .And (e :: f :: r) pos) (tT q W (.and a b)) := by
  have hb' : PW X (.BoolOp .And (f :: r) pos) (tT q W b) := ⟨fun _ => hb.run⟩
  refine PT.dyn fun σ H Q ⟨env, μ, ι, G, R, S, c⟩ => ⟨_, (pw_and ha hb').pt, env, μ, ι, G, R, S, ?_⟩
  have e0 : evE q.P q.call (.and a b) env μ = (evE q.P q.call a env μ).bind fun d μ => kAnd2 q.P q.call d (truth μ d) b env μ := rfl
  rw [e0, bOf_bind] at c
  have c' : GCt q.T RepB W σ ι G ((bOf (evE q.P q.call a env μ)).bind fun k μ => if k then bOf (evE q.P q.call b env μ) else .ok false μ) Q := by
    cases h1 : evE q.P q.call a env μ with
    | bad => rw [h1] at c; exact c
    | ex y μ1 => rw [h1] at c; exact c
    | ok d μ1 =>
      rw [h1] at c
      simp only [Res.bind_ok, bOf] at c ⊢
      cases ht : truth μ1 d with
      | none => rw [ht] at c; exact c
      | some k =>
        rw [ht] at c
        cases k with
        | true => exact c
        | false =>
          simp only [kAnd2_f, Res.bind_ok] at c
          rw [ht] at c
          exact c
  refine GCt.bind c' fun k μ1 v ι1 G1 H1 _ g r rv c1 => ?_
  have rv : v = k := rv
  subst rv
  cases v with
  | true => exact iteT ⟨env, μ1, ι1, G1, r, S.mono g, c1⟩
  | false => exact iteF (c1 false ι1 G1 H1 (Grow.refl _ _) r rfl)
theorem st_or {a b : CE} {e f : Expr} {r : List Expr} {pos : Pos} (ha : PT X e (tT q W a)) (hb : PT X (.BoolOp .Or (f :: r) pos) (tT q W b)) : PT X (.BoolOp .Or (e :: f :: r) pos) (tT q W (.or a b)) := by
  have hb' : PW X (.BoolOp .Or (f :: r) pos) (tT q W b) := ⟨fun _ => hb.run⟩
  refine PT.dyn fun σ H Q ⟨env, μ, ι, G, R, S, c⟩ => ⟨_, (pw_or ha hb').pt, env, μ, ι, G, R, S, ?_⟩
  have e0 : evE q.P q.call (.or a b) env μ = (evE q.P q.call a env μ).bind fun d μ => kOr2 q.P q.call d (truth μ d) b env μ := rfl
  rw [e0, bOf_bind] at c
  have c' : GCt q.T RepB W σ ι G ((bOf (evE q.P q.call a env μ)).bind fun k μ => if k then .ok true μ else bOf (evE q.P q.call b env μ)) Q := by
    cases h1 : evE q.P q.call a env μ with
    | bad => rw [h1] at c; exact c
    | ex y μ1 => rw [h1] at c; exact c
    | ok d μ1 =>
      rw [h1] at c
      simp only [Res.bind_ok, bOf] at c ⊢
      cases ht : truth μ1 d with
      | none => rw [ht] at c; exact c
      | some k =>
        rw [ht] at c
        cases k with
        | false => exact c
        | true =>
          simp only [kOr2_t, Res.bind_ok] at c
          rw [ht] at c
          exact c
  refine GCt.bind c' fun k μ1 v ι1 G1 H1 _ g r rv c1 => ?_
  have rv : v = k := rv
  subst rv
  cases v with
  | false => exact iteF ⟨env, μ1, ι1, G1, r, S.mono g, c1⟩
  | true => exact iteT (c1 true ι1 G1 H1 (Grow.refl _ _) r rfl)
theorem st_one {op : BoolOp} {a : CE} {e : Expr} {pos : Pos} (ha : PT X e (tT q W a)) : PT X (.BoolOp op [e] pos) (tT q W a) := by
  cases op with
  | And => exact (pw_and1 ha).pt
  | Or => exact (pw_or1 ha).pt
theorem se_not {a : CE} {e : Expr} {pos : Pos} (x : XOk q sc N W X) (ha : PE X e (tE q W a)) : PE X (.UnaryOp .Not e pos) (tE q W (.not a)) := by
  refine PE.dyn fun σ H Q ⟨env, μ, ι, G, R, S, c⟩ => ⟨_, pe_notT ha, env, μ, ι, G, R, S, ?_⟩
  have c' : Ct q.T W σ ι G ((evE q.P q.call a env μ).bind fun d μ => ofO ((truth μ d).map fun b => .bl (!b)) μ) Q := c
  refine GCt.bind c' fun d μ1 v ι1 G1 H1 _ g r rv c1 => ?_
  obtain ⟨b', hb, c2⟩ := c1.ofO
  obtain ⟨b, hb2, rfl⟩ := Option.map_eq_some_iff.mp hb
  exact ⟨b, by rw [x.eK]; exact tru_of r rv hb2, ct_val c2 r (.bl _)⟩
theorem st_not {a : CE} {e : Expr} {pos : Pos} (ha : PT X e (tT q W a)) : PT X (.UnaryOp .Not e pos) (tT q W (.not a)) := by
  refine PT.dyn fun σ H Q ⟨env, μ, ι, G, R, S, c⟩ => ⟨_, pt_not ha, env, μ, ι, G, R, S, ?_⟩
  have c' : GCt q.T RepB W σ ι G ((bOf (evE q.P q.call a env μ)).bind fun k μ => .ok (!k) μ) Q := by
    have e0 : evE q.P q.call (.not a) env μ = (evE q.P q.call a env μ).bind fun d μ => ofO ((truth μ d).map fun b => .bl (!b)) μ := rfl
    rw [e0, bOf_bind] at c
    cases h1 : evE q.P q.call a env μ with
    | bad => rw [h1] at c; exact c
    | ex y μ1 => rw [h1] at c; exact c
    | ok d μ1 =>
      rw [h1] at c
      simp only [Res.bind_ok, bOf] at c ⊢
      cases ht : truth μ1 d with
      | none => rw [ht] at c; exact c
      | some k => rw [ht] at c; exact c
  refine GCt.bind c' fun k μ1 v ι1 G1 H1 _ g r rv c1 => ?_
  have rv : v = k := rv
  subst rv
  exact c1 (!v) ι1 G1 H1 (Grow.refl _ _) r rfl
theorem se_ite {a b d : CE} {e f g : Expr} {pos : Pos} (x : XOk q sc N W X) (ha : PT X e (tT q W a)) (hb : PE X f (tE q W b)) (hd : PE X g (tE q W d)) : PE X (.IfExp e f g pos) (tE q W (.ite a b d)) := by
  refine PE.dyn fun σ H Q ⟨env, μ, ι, G, R, S, c⟩ => ⟨_, pe_ifExp ha hb hd, env, μ, ι, G, R, S, ?_⟩
  have c' : Ct q.T W σ ι G ((bOf (evE q.P q.call a env μ)).bind fun k μ => if k then evE q.P q.call b env μ else evE q.P q.call d env μ) Q := by
    have e0 : evE q.P q.call (.ite a b d) env μ = (evE q.P q.call a env μ).bind fun z μ => kIteE2 q.P q.call (truth μ z) b d env μ := rfl
    rw [e0] at c
    cases h1 : evE q.P q.call a env μ with
    | bad => rw [h1] at c; exact c
    | ex y μ1 => rw [h1] at c; exact c
    | ok z μ1 =>
      rw [h1] at c
      simp only [Res.bind_ok, bOf] at c ⊢
      cases ht : truth μ1 z with
      | none => rw [ht] at c; exact c
      | some k => rw [ht] at c; cases k <;> exact c
  refine GCt.bind c' fun k μ1 v ι1 G1 H1 _ g r rv c1 => ?_
  have rv : v = k := rv
  subst rv
  cases v with
  | true => exact iteT ⟨env, μ1, ι1, G1, r, S.mono g, c1⟩
  | false => exact iteF ⟨env, μ1, ι1, G1, r, S.mono g, c1⟩
/-! ### chains of two comparisons of whole numbers -/
def oOrd : CmpOp → Option (CmpO × (Int → Int → Bool))
  | .Lt => some (.lt, fun i j => decide (i < j))
  | .LtE => some (.le, fun i j => decide (i ≤ j))
  | .Gt => some (.gt, fun i j => decide (j < i))
  | .GtE => some (.ge, fun i j => decide (j ≤ i))
  | _ => none
theorem ord_op {op : CmpOp} {o : CmpO} {f : Int → Int → Bool} (h : oOrd op = some (o, f)) : OpR X (compareOp op) (rI0 fun i j => .bl (f i j)) ∧ ∀ μ d e b, cmpS μ o d e = some b → ∃ i j, d = .int i ∧ e = .int j ∧ b = f i j := by
  cases op <;> simp only [oOrd, reduceCtorEq, Option.some.injEq, Prod.mk.injEq] at h
  · obtain ⟨rfl, rfl⟩ := h
    exact ⟨op_lt, fun μ d e b h => by cases d <;> cases e <;> simp only [cmpS, reduceCtorEq, Option.some.injEq] at h; exact ⟨_, _, rfl, rfl, h.symm⟩⟩
  · obtain ⟨rfl, rfl⟩ := h
    exact ⟨op_le, fun μ d e b h => by cases d <;> cases e <;> simp only [cmpS, reduceCtorEq, Option.some.injEq] at h; exact ⟨_, _, rfl, rfl, h.symm⟩⟩
  · obtain ⟨rfl, rfl⟩ := h
    exact ⟨op_gt, fun μ d e b h => by cases d <;> cases e <;> simp only [cmpS, reduceCtorEq, Option.some.injEq] at h; exact ⟨_, _, rfl, rfl, h.symm⟩⟩
  · obtain ⟨rfl, rfl⟩ := h
    exact ⟨op_ge, fun μ d e b h => by cases d <;> cases e <;> simp only [cmpS, reduceCtorEq, Option.some.injEq] at h; exact ⟨_, _, rfl, rfl, h.symm⟩⟩
theorem chn_run {op op2 : CmpOp} {o o2 : CmpO} {fa fb : Int → Int → Bool} {a b d : CE} (h1 : oOrd op = some (o, fa)) (h2 : oOrd op2 = some (o2, fb)) (x : XOk q sc N W X) {σ : L2.St} {H : Hp} {env : Env} {μ : Store} {ι : List Addr} {G : Hp} (R : RelH q.T ι G μ H) (S : RelS q.T ι G env σ)
    {Q : VK} (c : Ct q.T W σ ι G (evE q.P q.call (.chn o o2 a b d) env μ) Q) : tChain (rI0 fun i j => .bl (fa i j)) (rI0 fun i j => .bl (fb i j)) (tE q W a) (tE q W b) (tE q W d) σ H Q := by
  have c' : Ct q.T W σ ι G ((evE q.P q.call a env μ).bind fun z μ => (evE q.P q.call b env μ).bind fun y μ => kChn3 q.P q.call (cmpS μ o z y) o2 y d env μ) Q := c
  refine ⟨env, μ, ι, G, R, S, GCt.bind c' fun z μ1 v ι1 G1 H1 _ g1 r1 rz c1 => ⟨env, μ1, ι1, G1, r1, S.mono g1, GCt.bind c1 fun y μ2 w ι2 G2 H2 _ g2 r2 ry c2 => ?_⟩⟩
  cases hc : cmpS μ2 o z y with
  | none => rw [hc] at c2; exact c2.elim
  | some k =>
    obtain ⟨i, j, rfl, rfl, rfl⟩ := (ord_op (X := X) h1).2 μ2 z y k hc
    rw [hc] at c2
    cases rz
    cases ry
    refine ⟨i, j, rfl, rfl, fa i j, rfl, ?_⟩
    cases hk : fa i j with
    | false =>
      rw [hk] at c2
      exact iteF (ct_val c2 r2 (.bl _))
    | true =>
      rw [hk] at c2
      have c3 : Ct q.T W σ ι2 G2 ((evE q.P q.call d env μ2).bind fun f μ => ofO ((cmpS μ o2 (.int j) f).map D.bl) μ) Q := c2
      refine iteT ⟨env, μ2, ι2, G2, r2, (S.mono g1).mono g2, GCt.bind c3 fun f μ3 u ι3 G3 H3 _ g3 r3 rf c4 => ?_⟩
      obtain ⟨b', hb, c5⟩ := c4.ofO
      obtain ⟨b2, hb2, rfl⟩ := Option.map_eq_some_iff.mp hb
      obtain ⟨i2, j2, e1, rfl, rfl⟩ := (ord_op (X := X) h2).2 μ3 _ f b2 hb2
      cases e1
      cases rf
      exact ⟨j, j2, rfl, rfl, ct_val c5 r3 (.bl _)⟩
theorem marks2 {op op2 : CmpOp} {f g : Expr} (hp : plE g = true) : lastMarks [op, op2] [f, g] = false := pl_mark hp op2
theorem se_chn {op op2 : CmpOp} {o o2 : CmpO} {fa fb : Int → Int → Bool} {a b d : CE} {e f g : Expr} {pos : Pos} (h1 : oOrd op = some (o, fa)) (h2 : oOrd op2 = some (o2, fb)) (x : XOk q sc N W X) (ha : PE X e (tE q W a)) (hb : PE X f (tE q W b)) (hd : PE X g (tE q W d)) (hp : plE g = true) :
    PE X (.Compare e [op, op2] [f, g] pos) (tE q W (.chn o o2 a b d)) :=
  PE.dyn fun σ H Q ⟨env, μ, ι, G, R, S, c⟩ => ⟨_, pe_chain (ord_op h1).1 (ord_op h2).1 ha hb hd (marks2 hp), chn_run h1 h2 x R S c⟩
theorem chn_bl {op op2 : CmpOp} {o o2 : CmpO} {fa fb : Int → Int → Bool} {a b d : CE} (h1 : oOrd op = some (o, fa)) (h2 : oOrd op2 = some (o2, fb)) {T : Nam} {σ : L2.St} {env : Env} {μ : Store} {ι : List Addr} {G : Hp} {Q : Bool → Hp → Prop}
    (c : GCt T RepB W σ ι G (bOf (evE q.P q.call (.chn o o2 a b d) env μ)) Q) : Ct T W σ ι G (evE q.P q.call (.chn o o2 a b d) env μ) (fun v H => ∃ k, v = .bl k ∧ Q k H) := by
  have e0 : evE q.P q.call (.chn o o2 a b d) env μ = (evE q.P q.call a env μ).bind fun z μ => (evE q.P q.call b env μ).bind fun y μ => kChn3 q.P q.call (cmpS μ o z y) o2 y d env μ := rfl
  rw [e0] at c ⊢
  have isb : ∀ r : RD, (∀ d μ, r = .ok d μ → ∃ k, d = .bl k) → GCt T RepB W σ ι G (bOf r) Q → Ct T W σ ι G r (fun v H => ∃ k, v = .bl k ∧ Q k H) := fun r hr c => by
    cases r with
    | bad => exact c
    | ex y μ1 => exact c
    | ok d μ1 =>
      obtain ⟨k, rfl⟩ := hr d μ1 rfl
      intro v ι' G' H' g R' rv
      cases rv
      exact ⟨_, rfl, c _ ι' G' H' g R' rfl⟩
  refine isb _ (fun z μ1 hz => ?_) c
  cases ea : evE q.P q.call a env μ with
  | bad => rw [ea] at hz; cases hz
  | ex y μ1 => rw [ea] at hz; cases hz
  | ok z1 μ2 =>
    rw [ea, Res.bind_ok] at hz
    cases eb : evE q.P q.call b env μ2 with
    | bad => rw [eb] at hz; cases hz
    | ex y μ1 => rw [eb] at hz; cases hz
    | ok z2 μ3 =>
      rw [eb, Res.bind_ok] at hz
      cases hc : cmpS μ3 o z1 z2 with
      | none => rw [hc] at hz; cases hz
      | some k =>
        rw [hc] at hz
        cases k with
        | false => cases hz; exact ⟨_, rfl⟩
        | true =>
          have hz' : (evE q.P q.call d env μ3).bind (fun f μ => ofO ((cmpS μ o2 z2 f).map D.bl) μ) = .ok z μ1 := hz
          cases ed : evE q.P q.call d env μ3 with
          | bad => rw [ed] at hz'; cases hz'
          | ex y μ1 => rw [ed] at hz'; cases hz'
          | ok z3 μ4 =>
            rw [ed, Res.bind_ok] at hz'
            cases hc2 : cmpS μ4 o2 z2 z3 with
            | none => rw [hc2] at hz'; cases hz'
            | some k2 => rw [hc2] at hz'; cases hz'; exact ⟨_, rfl⟩
theorem st_chn {op op2 : CmpOp} {o o2 : CmpO} {fa fb : Int → Int → Bool} {a b d : CE} {e f g : Expr} {pos : Pos} (h1 : oOrd op = some (o, fa)) (h2 : oOrd op2 = some (o2, fb)) (x : XOk q sc N W X) (ha : PE X e (tE q W a)) (hb : PE X f (tE q W b)) (hd : PE X g (tE q W d)) (hp : plE g = true) :
    PT X (.Compare e [op, op2] [f, g] pos) (tT q W (.chn o o2 a b d)) :=
  PT.dyn fun σ H Q ⟨env, μ, ι, G, R, S, c⟩ => ⟨_, pt_chain (ord_op h1).1 (ord_op h2).1 ha hb hd (marks2 hp), chn_run h1 h2 x R S (chn_bl h1 h2 c)⟩
/-! ### displays, slices -/
theorem evA_len {as : CE} {es : List Expr} (A : Args X q W as es) : ∀ {env : Env} {μ μ' : Store} {ds : List D}, evA q.P q.call as env μ = .ok ds μ' → ds.length = es.length := by
  induction A with
  | nil => intro env μ μ' ds h; cases h; rfl
  | cons h hp A ih =>
    rename_i a r e es
    intro env μ μ' ds h
    have h' : ((evE q.P q.call a env μ).bind fun d μ => (evA q.P q.call r env μ).bind fun ds μ => .ok (d :: ds) μ) = .ok ds μ' := h
    cases h1 : evE q.P q.call a env μ with
    | bad => rw [h1] at h'; cases h'
    | ex y μ1 => rw [h1] at h'; cases h'
    | ok d μ1 =>
      rw [h1, Res.bind_ok] at h'
      cases h2 : evA q.P q.call r env μ1 with
      | bad => rw [h2] at h'; cases h'
      | ex y μ1 => rw [h2] at h'; cases h'
      | ok d2 μ2 =>
        rw [h2, Res.bind_ok] at h'
        cases h'
        rw [List.length_cons, ih h2, List.length_cons]
theorem big_ok {n : Nat} (h : n ≤ 1000) : n ≤ sizeLine := Nat.le_trans h (by decide)
theorem se_tup {as : CE} {es : List Expr} {k : Nat} {pos : Pos} (A : Args X q W as es) (hl : es.length ≤ 1000) : PE X (.Tuple es k pos) (tE q W (.tup as)) := by
  refine PE.dyn fun σ H Q ⟨env, μ, ι, G, R, S, c⟩ => ⟨_, pe_tup A.pa, env, μ, ι, G, R, S, ?_⟩
  have c' : Ct q.T W σ ι G ((evA q.P q.call as env μ).bind fun ds μ => .ok (.tup ds) μ) Q := c
  exact GCt.bind c' fun ds μ1 vs ι1 G1 H1 he g r rl c1 => ⟨by rw [rl.length, evA_len A he]; exact big_ok hl, fun p hp => ct_new c1 r _ hp fun G' g e => .tup e (rl.mono g)⟩
theorem se_lst {as : CE} {es : List Expr} {fz : Bool} {pos : Pos} (A : Args X q W as es) (hl : es.length ≤ 1000) : PE X (.List es pos) (tE q W (.lst fz as)) := by
  refine PE.dyn fun σ H Q ⟨env, μ, ι, G, R, S, c⟩ => ⟨_, pe_lst A.pa, env, μ, ι, G, R, S, ?_⟩
  have c' : Ct q.T W σ ι G ((evA q.P q.call as env μ).bind fun ds μ => put μ fz (.lst ds)) Q := c
  exact GCt.bind c' fun ds μ1 vs ι1 G1 H1 he g r rl c1 => ⟨by rw [rl.length, evA_len A he]; exact big_ok hl, fun p hp => ct_put c1 r rl hp⟩
/-- what was just made stays as it is -/
def tPin (t : TE) : TE := fun σ H Q => t σ H fun v H' => ∃ d u, H' d = some u ∧ Mut (some u) ∧ ∀ od, Q v (upd H' d (.frz od u))
theorem pe_pin {e : Expr} {t : TE} (h : PE X e t) : PE X e (tPin t) := ⟨fun pins s σ H Q I q => by
  refine thn (h.run pins s σ H _ I q) fun v s1 ⟨x, H1, I1, r1, d, u, hd, mu, k⟩ => ?_
  obtain ⟨od, I2⟩ := I1.lock hd mu
  exact ⟨x, _, I2, r1, k od⟩⟩
theorem se_dnew {t fz : Bool} {pos : Pos} : PE X (.Dict [] [] pos) (tE q W (.dnew t fz)) := by
  refine PE.dyn fun σ H Q ⟨env, μ, ι, G, R, S, c⟩ => ?_
  have c' : Ct q.T W σ ι G (put μ fz (.dic t [])) Q := c
  cases t with
  | false =>
    cases fz with
    | true =>
      refine ⟨_, pe_pin pe_dnewK, fun p hp => ⟨p, _, upd_same, trivial, fun od => ?_⟩⟩
      rw [upd_upd]
      exact ct_new c' R _ hp fun G' g e => .dicK e .nil
    | false =>
      refine ⟨_, pe_dnewK, fun p hp => ?_⟩
      exact c' (.ref p) (ι ++ [p]) G _ (Grow.cell ι G p) (R.cell (c := .dic false []) hp (.dicK (R.fz.free hp) upd_same .nil)) (.cell (by rw [← R.len]; simp))
  | true =>
    cases fz with
    | true =>
      refine ⟨_, pe_pin pe_dnewT, fun p hp => ⟨p, _, upd_same, trivial, fun od => ?_⟩⟩
      rw [upd_upd]
      exact ct_new c' R _ hp fun G' g e => .dicT e .nil
    | false =>
      refine ⟨_, pe_dnewT, fun p hp => ?_⟩
      exact c' (.ref p) (ι ++ [p]) G _ (Grow.cell ι G p) (R.cell (c := .dic true []) hp (.dicT (R.fz.free hp) upd_same .nil)) (.cell (by rw [← R.len]; simp))
/-- a part of a slice -/
def tP (q : Cq) (W : WX) (c : CE) : TO := fun σ H Q => ∃ (env : Env) (μ : Store) (ι : List Addr) (G : Hp), RelH q.T ι G μ H ∧ RelS q.T ι G env σ ∧ GCt q.T (fun _ _ b c => b = c) W σ ι G (evP q.P q.call c env μ) Q
theorem PO.dyn {e : Option Expr} {t' : TO} (h : ∀ σ H Q, t' σ H Q → ∃ t, PO X e t ∧ t σ H Q) : PO X e t' := ⟨fun pins s σ H Q I q => by
  obtain ⟨t, h1, h2⟩ := h σ H Q q
  exact h1.run pins s σ H Q I h2⟩
theorem po_npt : PO X none (tP q W .npt) := PO.dyn fun σ H Q ⟨env, μ, ι, G, R, S, c⟩ => ⟨_, po_none, c none ι G H (Grow.refl _ _) R rfl⟩
theorem po_prt {a : CE} {e : Expr} (h : PE X e (tE q W a)) : PO X (some e) (tP q W (.prt a)) := PO.dyn fun σ H Q ⟨env, μ, ι, G, R, S, c⟩ => ⟨_, po_some h, env, μ, ι, G, R, S, by
  have c' : GCt q.T (fun _ _ b c => b = c) W σ ι G ((evE q.P q.call a env μ).bind fun d μ => ofO (partOf d) μ) Q := c
  refine GCt.bind c' fun d μ1 v ι1 G1 H1 _ g r rv c1 => ?_
  obtain ⟨o, ho, c2⟩ := c1.ofO
  cases rv with
  | int i => cases ho; exact ⟨i, rfl, c2 _ ι1 G1 H1 (Grow.refl _ _) r rfl⟩
  | _ => cases ho⟩
theorem cut_rep {T : Nam} {ι : List Addr} {G : Hp} {vs : List V} {ds : List D} (r : RepL T ι G vs ds) (lo hi : Option Int) : RepL T ι G (cutV vs lo hi) (cutD ds lo hi) := by
  unfold cutV cutD
  rw [r.length]
  exact (r.drop _).take _
theorem cut_whole {xs : List D} {lo hi : Option Int} (h : HT.sIx xs.length 0 lo = 0 ∧ HT.sIx xs.length xs.length hi = xs.length) : cutD xs lo hi = xs := by
  unfold cutD
  rw [h.1, h.2, Nat.sub_zero, List.drop_zero, List.take_length]
theorem strK_cut {z : Str} (h : strK z) (lo hi : Option Int) : strK (cutS z lo hi) := fun c hc => by
  have hc' : c ∈ (z.cps.toList.drop (HT.sIx z.length 0 lo)).take (HT.sIx z.length z.length hi - HT.sIx z.length 0 lo) := by simpa [cutS] using hc
  exact h c (List.mem_of_mem_drop (List.mem_of_mem_take hc'))
theorem se_sl {a l h : CE} {e : Expr} {el eh : Option Expr} {p2 pos : Pos} (x : XOk q sc N W X) (ha : PE X e (tE q W a)) (hl : PO X el (tP q W l)) (hh : PO X eh (tP q W h)) : PE X (.Subscript e (.Slice el eh none p2) pos) (tE q W (.sl a l h)) := by
  refine PE.dyn fun σ H Q ⟨env, μ, ι, G, R, S, c⟩ => ?_
  have c' : Ct q.T W σ ι G ((evE q.P q.call a env μ).bind fun d μ => (evP q.P q.call l env μ).bind fun lo μ => (evP q.P q.call h env μ).bind fun hi μ => slS μ d lo hi) Q := c
  have main : ∀ r : V → Option Int → Option Int → Hp → VK → Prop, (∀ d μ1 lo μ2 hi μ3, evE q.P q.call a env μ = .ok d μ1 → evP q.P q.call l env μ1 = .ok lo μ2 → evP q.P q.call h env μ2 = .ok hi μ3 → ∀ v ι G H, RelH q.T ι G μ3 H → RepD q.T ι G v d → Ct q.T W σ ι G (slS μ3 d lo hi) Q → r v lo hi H Q) → tSl r (tE q W a) (tP q W l) (tP q W h) σ H Q := fun r hr =>
    ⟨env, μ, ι, G, R, S, GCt.bind c' fun d μ1 v ι1 G1 H1 e1 g1 r1 rd c1 => ⟨env, μ1, ι1, G1, r1, S.mono g1, GCt.bind c1 fun lo μ2 lo' ι2 G2 H2 e2 g2 r2 rlo c2 => by
      have rlo : lo' = lo := rlo
      subst rlo
      exact ⟨env, μ2, ι2, G2, r2, (S.mono g1).mono g2, GCt.bind c2 fun hi μ3 hi' ι3 G3 H3 e3 g3 r3 rhi c3 => by
        have rhi : hi' = hi := rhi
        subst rhi
        exact hr d μ1 lo' μ2 hi' μ3 e1 e2 e3 v ι3 G3 H3 r3 ((rd.mono g2).mono g3) c3⟩⟩⟩
  have no : ∃ t, PE X (.Subscript e (.Slice el eh none p2) pos) t ∧ ((∀ d μ1 lo μ2 hi μ3, evE q.P q.call a env μ = .ok d μ1 → evP q.P q.call l env μ1 = .ok lo μ2 → evP q.P q.call h env μ2 = .ok hi μ3 → False) → t σ H Q) :=
    ⟨_, pe_slice sl_list ha hl hh, fun hf => main _ fun d μ1 lo μ2 hi μ3 e1 e2 e3 => (hf d μ1 lo μ2 hi μ3 e1 e2 e3).elim⟩
  obtain ⟨t0, ht0, hn0⟩ := no
  cases e1 : evE q.P q.call a env μ with
  | bad => rw [e1] at c'; exact c'.elim
  | ex y μ1 => exact ⟨t0, ht0, hn0 fun d μ1' lo μ2 hi μ3 z => by rw [e1] at z; cases z⟩
  | ok d μ1 => cases e2 : evP q.P q.call l env μ1 with
    | bad => rw [e1, Res.bind_ok, e2] at c'; exact c'.elim
    | ex y μ2 => exact ⟨t0, ht0, hn0 fun d' μ1' lo μ2' hi μ3 z z2 => by rw [e1] at z; cases z; rw [e2] at z2; cases z2⟩
    | ok lo μ2 => cases e3 : evP q.P q.call h env μ2 with
      | bad => rw [e1, Res.bind_ok, e2, Res.bind_ok, e3] at c'; exact c'.elim
      | ex y μ3 => exact ⟨t0, ht0, hn0 fun d' μ1' lo' μ2' hi μ3' z z2 z3 => by rw [e1] at z; cases z; rw [e2] at z2; cases z2; rw [e3] at z3; cases z3⟩
      | ok hi μ3 =>
        rw [e1, Res.bind_ok, e2, Res.bind_ok, e3, Res.bind_ok] at c'
        have go : ∀ r, SlR X r → (∀ v ι G H, RelH q.T ι G μ3 H → RepD q.T ι G v d → Ct q.T W σ ι G (slS μ3 d lo hi) Q → r v lo hi H Q) → ∃ t, PE X (.Subscript e (.Slice el eh none p2) pos) t ∧ t σ H Q := fun r hr hq =>
          ⟨_, pe_slice hr ha hl hh, main r fun d' μ1' lo' μ2' hi' μ3' z z2 z3 => by rw [e1] at z; cases z; rw [e2] at z2; cases z2; rw [e3] at z3; cases z3; exact hq⟩
        have viaL : ∀ xs, lstOf μ3 d = some xs → slS μ3 d lo hi = .ok (.lst (cutD xs lo hi)) μ3 → ∃ t, PE X (.Subscript e (.Slice el eh none p2) pos) t ∧ t σ H Q := fun xs hx hs =>
          go _ sl_list fun v ι G H R rv c3 => by
            rw [hs] at c3
            obtain ⟨b, vs, rfl, h1, h2⟩ := R.lstOf rv hx
            exact ⟨b, vs, rfl, .inl h1, fun p hp => ct_new c3 R _ hp fun G' g z => .lst (.inl z) ((cut_rep h2 lo hi).mono g)⟩
        cases d with
        | str z =>
          refine go _ sl_str fun v ι G H R rv c3 => ?_
          cases rv
          rename_i k
          have c4 : Ct q.T W σ ι G (if sz z.length then .ok (.str (cutS z lo hi)) μ3 else .bad) Q := c3
          split at c4
          · rename_i hz
            exact ⟨z, rfl, flip_len hz, ct_val c4 R (.str (strK_cut k lo hi))⟩
          · exact c4.elim
        | tup xs =>
          refine go _ sl_tupA fun v ι G H R rv c3 => ?_
          cases rv with
          | tup g1 l1 =>
            have c4 : Ct q.T W σ ι G (.ok (.tup (cutD xs lo hi)) μ3) Q := c3
            refine ⟨_, _, rfl, .inl (.inl (R.fz.tup g1)), fun hz => ?_, fun _ p hp => ct_new c4 R _ hp fun G' g z => .tup z ((cut_rep l1 lo hi).mono g)⟩
            rw [l1.length] at hz
            rw [cut_whole hz] at c4
            exact ct_val c4 R (.tup g1 l1)
        | wtup xs =>
          refine go _ sl_tupA fun v ι G H R rv c3 => ?_
          cases rv with
          | wtup g1 l1 =>
            have c4 : Ct q.T W σ ι G (if HT.sIx xs.length 0 lo = 0 ∧ HT.sIx xs.length xs.length hi = xs.length then .ok (.wtup xs) μ3 else .ok (.tup (cutD xs lo hi)) μ3) Q := c3
            refine ⟨_, _, rfl, by rw [x.eK]; exact R.fz.sqt g1, fun hz => ?_, fun hz p hp => ?_⟩
            · rw [l1.length] at hz
              rw [if_pos hz] at c4
              exact ct_val c4 R (.wtup g1 l1)
            · rw [l1.length] at hz
              rw [if_neg hz] at c4
              exact ct_new c4 R _ hp fun G' g z => .tup z ((cut_rep l1 lo hi).mono g)
        | lst xs => exact viaL xs rfl rfl
        | cell i =>
          cases hx : lstOf μ3 (.cell i) with
          | none => simp only [slS, hx] at c'; exact c'.elim
          | some xs => exact viaL xs hx (by simp only [slS, hx])
        | _ => exact c'.elim
end Co

set_option linter.all false
set_option maxRecDepth 100000
set_option Elab.async false
/-! Co15: what is walked; comprehensions. -/
namespace Co
open PySem L2
variable {q : Cq} {sc : Scope} {N : List Str} {W : WX} {X : Cx}
/-! ### targets -/
def okG (N : List Str) (sc : Scope) (fnLocal : Bool) : TGT → Expr → Bool
  | .nm i, .Name x _ => decide (N[i]? = some x) && (match sc.names.lookup x with
    | some .local => true
    | some .cell => fnLocal
    | _ => false)
  | .tp ts, .Tuple es _ _ => okGs ts es
  | _, _ => false
where
  okGs : TGT → List Expr → Bool
    | .nil, [] => true
    | .cons (.nm i) r, e :: es => (match e with
      | .Name x _ => decide (N[i]? = some x) && (match sc.names.lookup x with
        | some .local => true
        | some .cell => fnLocal
        | _ => false)
      | _ => false) && okGs r es
    | .cons (.tp ts) r, e :: es => (match e with
      | .Tuple es2 _ _ => okGs ts es2
      | _ => false) && okGs r es
    | _, _ => false
/-- the slots that a target fills are among vs -/
def tgIn (vs : List Nat) : TGT → Bool
  | .nm i => vs.contains i
  | .tp ts => tgIn vs ts
  | .nil => true
  | .cons a b => tgIn vs a && tgIn vs b
theorem wipe_set {σ : L2.St} {i : Nat} {x : Option V} : ∀ {vs : List Nat}, vs.contains i = true → wipe (σ.set i x) vs = wipe σ vs
  | [], h => by simp at h
  | v :: vs, h => by
    unfold wipe
    by_cases hv : vs.contains i = true
    · rw [wipe_set hv]
    · have e : v = i := by
        simp only [List.contains_cons, Bool.or_eq_true] at h
        rcases h with h | h
        · exact (by simpa using h : i = v).symm
        · exact absurd h hv
      subst e
      exact wipe_out hv
where
  wipe_out {σ : L2.St} {i : Nat} {x : Option V} : ∀ {vs : List Nat}, ¬ vs.contains i = true → (wipe (σ.set i x) vs).set i none = (wipe σ vs).set i none
  | [], _ => by
    unfold wipe
    rw [List.set_set]
  | v :: vs, h => by
    have h1 : v ≠ i := fun e => by
      subst e
      simp at h
    have h2 : ¬ vs.contains i = true := fun e => by
      apply h
      simp only [List.contains_cons, Bool.or_eq_true]
      exact .inr e
    unfold wipe
    rw [List.set_comm _ _ h1, wipe_out h2, List.set_comm _ _ h1.symm]
theorem wipe_wipe {σ : L2.St} : ∀ {vs ws : List Nat}, (∀ i ∈ vs, i ∈ ws) → wipe (wipe σ vs) ws = wipe σ ws
  | [], ws, _ => rfl
  | v :: vs, ws, h => by
    have e : wipe σ (v :: vs) = (wipe σ vs).set v none := rfl
    rw [e, wipe_set (by simpa using h v List.mem_cons_self), wipe_wipe fun i hi => h i (List.mem_cons_of_mem _ hi)]
/-- what the targets' rules ask, told -/
def tG (T : Nam) (tg : TGT) : TG := fun v σ H Q => ∃ (ι : List Addr) (G : Hp) (μ : Store) (env env' : Env) (d : D), RelH T ι G μ H ∧ RelS T ι G env σ ∧ RepD T ι G v d ∧ asgT tg d env = some env' ∧ ∀ σ', RelS T ι G env' σ' → σ'.length = σ.length → (∀ vs, tgIn vs tg = true → wipe σ' vs = wipe σ vs) → Q σ' H
def tGs (T : Nam) (tg : TGT) : TGs := fun vs σ H Q => ∃ (ι : List Addr) (G : Hp) (μ : Store) (env env' : Env) (ds : List D), RelH T ι G μ H ∧ RelS T ι G env σ ∧ RepL T ι G vs ds ∧ asgT.asgTs tg ds env = some env' ∧ ∀ σ', RelS T ι G env' σ' → σ'.length = σ.length → (∀ vs, tgIn vs tg = true → wipe σ' vs = wipe σ vs) → Q σ' H
theorem PG.dyn {e : Expr} {t' : TG} (h : ∀ v σ H Q, t' v σ H Q → ∃ t, PG X e t ∧ t v σ H Q) : PG X e t' := ⟨fun pins s σ H v u Q I r q => by
  obtain ⟨t, h1, h2⟩ := h v σ H Q q
  exact h1.run pins s σ H v u Q I r h2⟩
theorem PGs.dyn {e : List Expr} {t' : TGs} (h : ∀ v σ H Q, t' v σ H Q → ∃ t, PGs X e t ∧ t v σ H Q) : PGs X e t' := ⟨fun pins s σ H v u Q I r q => by
  obtain ⟨t, h1, h2⟩ := h v σ H Q q
  exact h1.run pins s σ H v u Q I r h2⟩
/-- what a context is for targets -/
structure GOk (q : Cq) (sc : Scope) (N : List Str) (fnLocal : Bool) (X : Cx) : Prop where
  eK : X.K = q.T.K
  eS : X.env.scope = sc
  eN : X.N = N
  nd : N.Nodup
  calm : X.calm = true
  fnl : fnLocal = true → ∀ x, X.fn x = true
theorem pg_nm {fl : Bool} {i : Nat} {y : Str} {pos : Pos} (x : GOk q sc N fl X) (h1 : N[i]? = some y) (h2 : (match sc.names.lookup y with
    | some .local => true
    | some .cell => fl
    | _ => false) = true) : PG X (.Name y pos) (gName i) := by
  refine pg_name (by rw [x.eN]; exact x.nd) (by rw [x.eN]; exact h1) ?_ ?_
  · unfold L2.Loc
    rw [x.eS]
    split at h2
    · exact .inl (by assumption)
    · exact .inr (by assumption)
    · cases h2
  · rw [x.eS]
    split at h2
    · exact .inr (by assumption)
    · exact .inl (x.fnl h2 y)
    · cases h2
theorem findStar : ∀ {es : List Expr} {env : PySem.Env}, (∀ e ∈ es, (∃ x p, e = .Name x p) ∨ ∃ l k p, e = .Tuple l k p) → (assignEach es env).length = es.length ∧ (assignEach es env).findIdx? (·.1) = none
  | [], env, _ => ⟨rfl, rfl⟩
  | e :: es, env, h => by
    have ih := findStar (es := es) (env := env) fun x hx => h x (List.mem_cons_of_mem _ hx)
    have e0 : assignEach (e :: es) env = (false, assign e env) :: assignEach es env := by
      rcases h e List.mem_cons_self with ⟨x, p, rfl⟩ | ⟨l, k, p, rfl⟩ <;> rfl
    rw [e0, List.length_cons, List.length_cons, ih.1, List.findIdx?_cons]
    refine ⟨rfl, ?_⟩
    simp [ih.2]
theorem okGs_form {N : List Str} {sc : Scope} {fl : Bool} : ∀ {tg : TGT} {es : List Expr}, okG.okGs N sc fl tg es = true → ∀ e ∈ es, (∃ x p, e = .Name x p) ∨ ∃ l k p, e = .Tuple l k p
  | .nil, [], _, e, h => by cases h
  | .cons (.nm i) r, e :: es, h, f, hf => by
    unfold okG.okGs at h
    rw [Bool.and_eq_true] at h
    rcases List.mem_cons.mp hf with rfl | hf
    · have h1 := h.1
      split at h1
      · exact .inl ⟨_, _, rfl⟩
      · cases h1
    · exact okGs_form h.2 f hf
  | .cons (.tp ts) r, e :: es, h, f, hf => by
    unfold okG.okGs at h
    rw [Bool.and_eq_true] at h
    rcases List.mem_cons.mp hf with rfl | hf
    · have h1 := h.1
      split at h1
      · exact .inr ⟨_, _, _, rfl⟩
      · cases h1
    · exact okGs_form h.2 f hf
theorem asgTs_len : ∀ {tg : TGT} {es : List Expr} {N : List Str} {sc : Scope} {fl : Bool} {ds : List D} {env env' : Env}, okG.okGs N sc fl tg es = true → asgT.asgTs tg ds env = some env' → ds.length = es.length
  | .nil, [], _, _, _, [], _, _, _, _ => rfl
  | .nil, [], _, _, _, _ :: _, _, _, _, h => by cases h
  | .cons (.nm i) r, e :: es, N, sc, fl, [], env, env', h, h2 => by cases h2
  | .cons (.tp ts) r, e :: es, N, sc, fl, [], env, env', h, h2 => by cases h2
  | .cons (.nm i) r, e :: es, N, sc, fl, d :: ds, env, env', h, h2 => by
    unfold okG.okGs at h
    rw [Bool.and_eq_true] at h
    have h3 : asgT.asgTs r ds (env.set i (some d)) = some env' := h2
    rw [List.length_cons, List.length_cons, asgTs_len h.2 h3]
  | .cons (.tp ts) r, e :: es, N, sc, fl, d :: ds, env, env', h, h2 => by
    unfold okG.okGs at h
    rw [Bool.and_eq_true] at h
    have h3 : ∃ env2, asgT.asgTs r ds env2 = some env' := by
      cases d with
      | tup ys =>
        have h4 : (asgT.asgTs ts ys env).bind (asgT.asgTs r ds) = some env' := h2
        obtain ⟨e2, _, h5⟩ := Option.bind_eq_some_iff.mp h4
        exact ⟨e2, h5⟩
      | wtup ys =>
        have h4 : (asgT.asgTs ts ys env).bind (asgT.asgTs r ds) = some env' := h2
        obtain ⟨e2, _, h5⟩ := Option.bind_eq_some_iff.mp h4
        exact ⟨e2, h5⟩
      | _ => cases h2
    obtain ⟨e2, h3⟩ := h3
    rw [List.length_cons, List.length_cons, asgTs_len h.2 h3]
theorem tup_view {T : Nam} {ι : List Addr} {G H : Hp} {μ : Store} (R : RelH T ι G μ H) {v : V} {d : D} (r : RepD T ι G v d) {ys : List D} (h : d = .tup ys ∨ d = .wtup ys) : ∃ a vs, v = .ref a ∧ SqT T.K H a vs ∧ RepL T ι G vs ys := by
  rcases h with rfl | rfl
  · cases r with
    | tup e l => exact ⟨_, _, rfl, .inl (.inl (R.fz.tup e)), l⟩
  · cases r with
    | wtup e l => exact ⟨_, _, rfl, R.fz.sqt e, l⟩
theorem pgs_ok {fl : Bool} (x : GOk q sc N fl X) : ∀ {tg : TGT} {es : List Expr}, okG.okGs N sc fl tg es = true → PGs X es (tGs q.T tg)
  | .nil, [], _ => PGs.dyn fun v σ H Q ⟨ι, G, μ, env, env', ds, R, S, rl, ha, k⟩ => ⟨_, pgs_nil, by
    cases ds with
    | nil => cases rl; cases ha; exact ⟨rfl, k σ S rfl fun _ _ => rfl⟩
    | cons _ _ => cases ha⟩
  | .cons (.nm i) r, e :: es, h => by
    unfold okG.okGs at h
    rw [Bool.and_eq_true] at h
    have ih := pgs_ok x h.2
    have h1 := h.1
    split at h1
    · rename_i y p
      rw [Bool.and_eq_true] at h1
      refine PGs.dyn fun v σ H Q ⟨ι, G, μ, env, env', ds, R, S, rl, ha, k⟩ => ⟨_, pgs_cons (pg_nm x (of_decide_eq_true h1.1) h1.2) ih, ?_⟩
      cases rl with
      | nil => cases ha
      | @cons v1 vs1 d1 ds1 hd hl =>
        have ha' : asgT.asgTs r ds1 (env.set i (some d1)) = some env' := ha
        exact ⟨_, _, rfl, ι, G, μ, _, env', _, R, S.set hd i, hl, ha', fun σ' S' hl' hw => k σ' S' (by rw [hl', List.length_set]) fun vs hv => by
          have hv' : (vs.contains i && tgIn vs r) = true := hv
          rw [Bool.and_eq_true] at hv'
          rw [hw vs hv'.2, wipe_set hv'.1]⟩
    · cases h1
  | .cons (.tp ts) r, e :: es, h => by
    unfold okG.okGs at h
    rw [Bool.and_eq_true] at h
    have ih := pgs_ok x h.2
    have h1 := h.1
    split at h1
    · rename_i es2 k2 p
      have ih2 := pgs_ok x h1
      obtain ⟨f1, f2⟩ := findStar (env := X.env) (okGs_form h1)
      refine PGs.dyn fun v σ H Q ⟨ι, G, μ, env, env', ds, R, S, rl, ha, k⟩ => ⟨_, pgs_cons (pg_tup x.calm ih2 rfl f2) ih, ?_⟩
      cases rl with
      | nil => cases ha
      | @cons v1 vs1 d1 ds1 hd hl =>
        have hd2 : ∃ ys, (d1 = .tup ys ∨ d1 = .wtup ys) ∧ (asgT.asgTs ts ys env).bind (asgT.asgTs r ds1) = some env' := by
          cases d1 with
          | tup ys => exact ⟨ys, .inl rfl, ha⟩
          | wtup ys => exact ⟨ys, .inr rfl, ha⟩
          | _ => cases ha
        obtain ⟨ys, hy, hb⟩ := hd2
        obtain ⟨env2, hb1, hb2⟩ := Option.bind_eq_some_iff.mp hb
        obtain ⟨a, us, rfl, ht, hr⟩ := tup_view R hd hy
        refine ⟨_, _, rfl, a, us, rfl, by rw [x.eK]; exact ht, ?_, ι, G, μ, env, env2, ys, R, S, hr, hb1, fun σ' S' hl' hw => ⟨ι, G, μ, env2, env', ds1, R, S', hl, hb2, fun σ2 S2 hl2 hw2 => k σ2 S2 (by rw [hl2, hl']) fun vs hv => by
          have hv' : (tgIn vs ts && tgIn vs r) = true := hv
          rw [Bool.and_eq_true] at hv'
          rw [hw2 vs hv'.2, hw vs hv'.1]⟩⟩
        rw [f1, hr.length, asgTs_len h1 hb1]
    · cases h1
  | .nil, _ :: _, h => by cases h
  | .nm _, _, h => by unfold okG.okGs at h; cases h
  | .tp _, _, h => by unfold okG.okGs at h; cases h
  | .cons (.nm _) _, [], h => by cases h
  | .cons (.tp _) _, [], h => by cases h
  | .cons .nil _, _, h => by unfold okG.okGs at h; cases h
  | .cons (.cons _ _) _, _, h => by unfold okG.okGs at h; cases h
theorem pg_ok {fl : Bool} (x : GOk q sc N fl X) {tg : TGT} {e : Expr} (h : okG N sc fl tg e = true) : PG X e (tG q.T tg) := by
  cases tg with
  | nm i => cases e with
    | Name y p =>
      have h' : (decide (N[i]? = some y) && (match sc.names.lookup y with
        | some .local => true
        | some .cell => fl
        | _ => false)) = true := h
      rw [Bool.and_eq_true] at h'
      exact PG.dyn fun v σ H Q ⟨ι, G, μ, env, env', d, R, S, rd, ha, k⟩ => ⟨_, pg_nm x (of_decide_eq_true h'.1) h'.2, by cases ha; exact k _ (S.set rd i) (by rw [List.length_set]) fun vs hv => wipe_set hv⟩
    | _ => cases h
  | tp ts => cases e with
    | Tuple es k2 p =>
      have h' : okG.okGs N sc fl ts es = true := h
      obtain ⟨f1, f2⟩ := findStar (env := X.env) (okGs_form h')
      refine PG.dyn fun v σ H Q ⟨ι, G, μ, env, env', d, R, S, rd, ha, k⟩ => ⟨_, pg_tup x.calm (pgs_ok x h') rfl f2, ?_⟩
      have hd2 : ∃ ys, (d = .tup ys ∨ d = .wtup ys) ∧ asgT.asgTs ts ys env = some env' := by
        cases d with
        | tup ys => exact ⟨ys, .inl rfl, ha⟩
        | wtup ys => exact ⟨ys, .inr rfl, ha⟩
        | _ => cases ha
      obtain ⟨ys, hy, hb⟩ := hd2
      obtain ⟨a, us, rfl, ht, hr⟩ := tup_view R rd hy
      exact ⟨a, us, rfl, by rw [x.eK]; exact ht, by rw [f1, hr.length, asgTs_len h' hb], ι, G, μ, env, env', ys, R, S, hr, hb, k⟩
    | _ => cases h
  | _ => cases e <;> cases h
end Co

set_option linter.all false
set_option maxRecDepth 100000
set_option Elab.async false
/-! Co16: what is walked. -/
namespace Co
open PySem L2
variable {q : Cq} {sc : Scope} {N : List Str} {W : WX} {X : Cx}
structure ItD (T : Nam) (J : It) (ι : List Addr) (G : Hp) (k : ITK) (ds xs : List D) (tg : Bool) : Prop where
  go : ∀ {i : Nat} {ι' : List Addr} {G' : Hp} {μ' : Store} {H : Hp}, Grow ι ι' G G' → RelH T ι' G' μ' H → itemsOf μ' k ds = some xs → tagOf μ' ds = tg → i < xs.length → J.go i H
  stop : ∀ {i : Nat} {ι' : List Addr} {G' : Hp} {μ' : Store} {H : Hp}, Grow ι ι' G G' → RelH T ι' G' μ' H → itemsOf μ' k ds = some xs → tagOf μ' ds = tg → xs.length ≤ i → J.stop i H
  yld : ∀ {i : Nat} {x : V} {ι' : List Addr} {G' : Hp} {μ' : Store} {H H' : Hp}, Grow ι ι' G G' → RelH T ι' G' μ' H → itemsOf μ' k ds = some xs → tagOf μ' ds = tg → i < xs.length → J.yld i H x H' →
    ∃ d G'', xs[i]? = some d ∧ Grow ι' ι' G' G'' ∧ RelH T ι' G'' μ' H' ∧ RepD T ι' G'' x d
section
variable {T : Nam} {ι : List Addr} {G : Hp}
/-- a tuple that stands, made known -/
theorem RelH.know {μ : Store} {H : Hp} (r : RelH T ι G μ H) {p : Addr} {vs : List V} (h : H p = some (.tup vs)) : ∃ G', Grow ι ι G G' ∧ RelH T ι G' μ H ∧ G' p = some (.tup vs) := by
  cases e : G p with
  | some u =>
    have h1 := r.fz.at_ p u e
    rw [h] at h1
    have : u = .tup vs := by
      have h2 := Option.some.inj h1
      cases u with
      | frz o w => cases w <;> exact HO.noConfusion h2
      | _ => exact h2.symm
    exact ⟨G, Grow.refl _ _, r, by rw [e, this]⟩
  | none =>
    have g : Grow ι ι G (upd G p (.tup vs)) := ⟨fun _ _ e => e, Evl.Ex.new e⟩
    refine ⟨_, g, ⟨⟨fun b u z => ?_⟩, r.len, r.nd, r.trk, r.tb.keep (fun b o' z => by
      by_cases q : b = p
      · subst q
        rw [upd_same] at z
        cases z
      · rw [upd_ne q] at z
        exact z) (fun _ _ z _ => z) (fun _ h => .inl h) (fun b ps z y => by
      by_cases q : b = p
      · subst q
        rw [h] at z
        cases z
      · rw [upd_ne q]
        exact y), fun i b c e1 e2 => ?_⟩, upd_same⟩
    · by_cases q : b = p
      · subst q
        rw [upd_same] at z
        cases z
        exact h
      · rw [upd_ne q] at z
        exact r.fz.at_ b u z
    · have hc := r.cel i b c e1 e2
      refine hc.grow g ?_ fun _ z => z
      cases hf : c.free
      · exact .inr rfl
      · refine .inl ?_
        have q : b ≠ p := fun z => by
          subst z
          cases hc with
          | dead => cases hf
          | lst _ h2 _ => rw [h] at h2; cases h2
          | dicK _ h2 _ => rw [h] at h2; cases h2
          | dicT _ h2 _ => rw [h] at h2; cases h2
          | ins _ h2 _ => rw [h] at h2; cases h2
          | ldicK _ h2 _ => cases hf
          | ldicT _ h2 _ => cases hf
          | clo _ _ _ _ _ _ _ => cases hf
        rw [upd_ne q]
        exact hc.free hf
theorem itd_lst {a : Addr} {d : D} {xs : List D} {k : ITK} (r : RepD T ι G (.ref a) d) (h : ∀ μ', itemsOf μ' k [d] = some xs → tagOf μ' [d] = false → lstOf μ' d = some xs) : ItD T (Itl T.K a) ι G k [d] xs false where
  go := fun {i ι' G' μ' H} g R e t hi => by
    obtain ⟨b, vs, hb, h1, h2⟩ := R.lstOf (r.mono g) (h _ e t)
    cases hb
    obtain ⟨v, hv, _⟩ := h2.get (List.getElem?_eq_getElem hi)
    exact ⟨vs, v, .inl h1, hv⟩
  stop := fun {i ι' G' μ' H} g R e t hi => by
    obtain ⟨b, vs, hb, h1, h2⟩ := R.lstOf (r.mono g) (h _ e t)
    cases hb
    exact ⟨vs, .inl h1, by rw [h2.length]; exact hi⟩
  yld := fun {i x ι' G' μ' H H'} g R e t hi y => by
    obtain ⟨b, vs, hb, h1, h2⟩ := R.lstOf (r.mono g) (h _ e t)
    cases hb
    obtain ⟨rfl, y2⟩ := y
    obtain ⟨x, hx, rx⟩ := h2.get' (y2 vs (.inl h1))
    exact ⟨x, _, hx, Grow.refl _ _, R, rx⟩
theorem itd_tup {a : Addr} {d : D} {vs : List V} {xs : List D} {k : ITK} (h0 : SqT T.K G a vs) (h2 : RepL T ι G vs xs) : ItD T (Itt T.K a) ι G k [d] xs false where
  go := fun {i ι' G' μ' H} g R e t hi => by
    obtain ⟨v, hv, _⟩ := h2.get (List.getElem?_eq_getElem hi)
    exact ⟨vs, v, R.fz.sqt (Evl.ex_t g.ex h0), hv⟩
  stop := fun {i ι' G' μ' H} g R e t hi => ⟨vs, R.fz.sqt (Evl.ex_t g.ex h0), by rw [h2.length]; exact hi⟩
  yld := fun {i x ι' G' μ' H H'} g R e t hi y => by
    obtain ⟨rfl, y2⟩ := y
    obtain ⟨x, hx, rx⟩ := h2.get' (y2 vs (R.fz.sqt (Evl.ex_t g.ex h0)))
    exact ⟨x, _, hx, Grow.refl _ _, R, rx.mono g⟩
theorem itd_str {z : Str} (hx : strK z) {k : ITK} : ItD T (Its z) ι G k [.str z] (signs z) false where
  go := fun {i ι' G' μ' H} g R e t hi => by
    unfold signs at hi
    rw [List.length_map, Array.length_toList] at hi
    exact hi
  stop := fun {i ι' G' μ' H} g R e t hi => by
    unfold signs at hi
    rw [List.length_map, Array.length_toList] at hi
    exact hi
  yld := fun {i x ι' G' μ' H H'} g R e t hi y => by
    obtain ⟨rfl, c, hc, rfl⟩ := y
    have hc' : z.cps.toList[i]? = some c := by rw [Array.getElem?_toList]; exact hc
    refine ⟨.str ⟨#[c]⟩, _, ?_, Grow.refl _ _, R, .str fun c' hc2 => ?_⟩
    · unfold signs
      rw [List.getElem?_map, hc']
      rfl
    · have e : c' = c := by simpa using hc2
      rw [e]
      exact hx c (List.mem_of_getElem? hc')
theorem itd_rng {lo : Int} {n : Nat} {ds xs : List D} {k : ITK} {tg : Bool} (hx : xs = (List.range n).map fun (i : Nat) => D.int (lo + (i : Int))) : ItD T (Itr lo n) ι G k ds xs tg where
  go := fun {i ι' G' μ' H} g R e t hi => by
    rw [hx, List.length_map, List.length_range] at hi
    exact hi
  stop := fun {i ι' G' μ' H} g R e t hi => by
    rw [hx, List.length_map, List.length_range] at hi
    exact hi
  yld := fun {i x ι' G' μ' H H'} g R e t hi y => by
    obtain ⟨rfl, rfl⟩ := y
    refine ⟨.int (lo + (i : Int)), _, ?_, Grow.refl _ _, R, .int _⟩
    rw [hx, List.length_map, List.length_range] at hi
    rw [hx, List.getElem?_map, List.getElem?_range hi]
    rfl
theorem itd_rev {a : Addr} {d : D} {xs : List D} {n : Nat} {k : ITK} {tg : Bool} (r : RepD T ι G (.ref a) d) (hn : n = xs.length) (h : ∀ μ', itemsOf μ' k [d] = some xs → ∃ ys, lstOf μ' d = some ys ∧ xs = ys.reverse) : ItD T (Itv T.K a n) ι G k [d] xs tg where
  go := fun {i ι' G' μ' H} g R e t hi => by
    obtain ⟨ys, hy, rfl⟩ := h _ e
    rw [List.length_reverse] at hi hn
    obtain ⟨b, vs, hb, h1, h2⟩ := R.lstOf (r.mono g) hy
    cases hb
    obtain ⟨v, hv, _⟩ := h2.get (i := n - 1 - i) (List.getElem?_eq_getElem (by omega))
    exact ⟨by omega, vs, v, .inl h1, hv⟩
  stop := fun {i ι' G' μ' H} g R e t hi => by
    show n ≤ _
    omega
  yld := fun {i x ι' G' μ' H H'} g R e t hi y => by
    obtain ⟨ys, hy, rfl⟩ := h _ e
    rw [List.length_reverse] at hi hn
    obtain ⟨b, vs, hb, h1, h2⟩ := R.lstOf (r.mono g) hy
    cases hb
    obtain ⟨rfl, y2⟩ := y
    obtain ⟨x, hx, rx⟩ := h2.get' (y2 vs (.inl h1))
    refine ⟨x, _, ?_, Grow.refl _ _, R, rx⟩
    rw [List.getElem?_reverse hi, ← hn]
    exact hx
/-- a new pair -/
theorem pair_new {ι' : List Addr} {G' : Hp} {μ' : Store} {H : Hp} (R : RelH T ι' G' μ' H) {p : Addr} (hp : H p = none) {v w : V} {d e : D} (h1 : RepD T ι' G' v d) (h2 : RepD T ι' G' w e) :
    Grow ι' ι' G' (upd G' p (.tup [v, w])) ∧ RelH T ι' (upd G' p (.tup [v, w])) μ' (upd H p (.tup [v, w])) ∧ RepD T ι' (upd G' p (.tup [v, w])) (.ref p) (.tup [d, e]) := by
  have g := Grow.frozen (ι := ι') (.tup [v, w]) (R.fz.free hp)
  exact ⟨g, R.frozen _ hp rfl, .tup upd_same (.cons (h1.mono g) (.cons (h2.mono g) .nil))⟩
theorem enumD_get : ∀ {xs : List D} {n i : Nat} {d : D}, xs[i]? = some d → (enumD n xs)[i]? = some (.tup [.int ((n + i : Nat) : Int), d])
  | [], _, _, _, h => by simp at h
  | x :: r, n, 0, d, h => by
    simp at h
    subst h
    rfl
  | x :: r, n, i + 1, d, h => by
    have e := enumD_get (xs := r) (n := n + 1) (i := i) (d := d) (by simpa using h)
    show (enumD (n + 1) r)[i]? = _
    rw [e]
    have : n + 1 + i = n + (i + 1) := by omega
    rw [this]
theorem enumD_len : ∀ {xs : List D} {n : Nat}, (enumD n xs).length = xs.length
  | [], _ => rfl
  | x :: r, n => by
    show (enumD (n + 1) r).length + 1 = r.length + 1
    rw [enumD_len]
theorem itd_enum {a : Addr} {d : D} {xs : List D} {tg : Bool} (r : RepD T ι G (.ref a) d) : ItD T (Ite T.K a) ι G .enum [d] xs tg where
  go := fun {i ι' G' μ' H} g R e t hi => by
    have e' : (lstOf μ' d).map (enumD 0) = some xs := e
    obtain ⟨ys, hy, rfl⟩ := Option.map_eq_some_iff.mp e'
    rw [enumD_len] at hi
    obtain ⟨b, vs, hb, h1, h2⟩ := R.lstOf (r.mono g) hy
    cases hb
    obtain ⟨v, hv, _⟩ := h2.get (List.getElem?_eq_getElem hi)
    exact ⟨vs, v, .inl h1, hv⟩
  stop := fun {i ι' G' μ' H} g R e t hi => by
    have e' : (lstOf μ' d).map (enumD 0) = some xs := e
    obtain ⟨ys, hy, rfl⟩ := Option.map_eq_some_iff.mp e'
    rw [enumD_len] at hi
    obtain ⟨b, vs, hb, h1, h2⟩ := R.lstOf (r.mono g) hy
    cases hb
    exact ⟨vs, .inl h1, by rw [h2.length]; exact hi⟩
  yld := fun {i x ι' G' μ' H H'} g R e t hi y => by
    have e' : (lstOf μ' d).map (enumD 0) = some xs := e
    obtain ⟨ys, hy, rfl⟩ := Option.map_eq_some_iff.mp e'
    obtain ⟨b, vs, hb, h1, h2⟩ := R.lstOf (r.mono g) hy
    cases hb
    obtain ⟨p, w, rfl, hp, rfl, y2⟩ := y
    obtain ⟨z, hz, rz⟩ := h2.get' (y2 vs (.inl h1))
    obtain ⟨g2, R2, r2⟩ := pair_new R hp (.int (i : Int)) rz
    refine ⟨_, _, ?_, g2, R2, r2⟩
    have := enumD_get (n := 0) hz
    rw [Nat.zero_add] at this
    exact this
theorem itd_zip {a b : Addr} {d e : D} {xs : List D} {tg : Bool} (r : RepD T ι G (.ref a) d) (r2 : RepD T ι G (.ref b) e) : ItD T (Itz T.K a b) ι G .zip [d, e] xs tg := by
  have vw : ∀ {ι' : List Addr} {G' : Hp} {μ' : Store} {H : Hp}, Grow ι ι' G G' → RelH T ι' G' μ' H → itemsOf μ' .zip [d, e] = some xs →
      ∃ ys zs vs ws, xs = ((ys.zip zs).map fun p => D.tup [p.1, p.2]) ∧ SqL T.K H a vs ∧ RepL T ι' G' vs ys ∧ SqL T.K H b ws ∧ RepL T ι' G' ws zs := by
    intro ι' G' μ' H g R h
    have h' : (match lstOf μ' d, lstOf μ' e with
      | some xs, some ys => some ((xs.zip ys).map fun p => D.tup [p.1, p.2])
      | _, _ => none) = some xs := h
    split at h'
    · rename_i ys zs h1 h2
      cases h'
      obtain ⟨a', vs, ha, s1, l1⟩ := R.lstOf (r.mono g) h1
      obtain ⟨b', ws, hb, s2, l2⟩ := R.lstOf (r2.mono g) h2
      cases ha
      cases hb
      exact ⟨ys, zs, vs, ws, rfl, .inl s1, l1, .inl s2, l2⟩
    · cases h'
  refine ⟨fun {i ι' G' μ' H} g R h t hi => ?_, fun {i ι' G' μ' H} g R h t hi => ?_, fun {i x ι' G' μ' H H'} g R h t hi y => ?_⟩
  · obtain ⟨ys, zs, vs, ws, rfl, s1, l1, s2, l2⟩ := vw g R h
    rw [List.length_map, List.length_zip] at hi
    obtain ⟨v, hv, _⟩ := l1.get (i := i) (List.getElem?_eq_getElem (by omega))
    obtain ⟨w, hw, _⟩ := l2.get (i := i) (List.getElem?_eq_getElem (by omega))
    exact ⟨vs, ws, v, w, s1, s2, hv, hw⟩
  · obtain ⟨ys, zs, vs, ws, rfl, s1, l1, s2, l2⟩ := vw g R h
    rw [List.length_map, List.length_zip] at hi
    exact ⟨vs, ws, s1, s2, by rw [l1.length, l2.length]; omega⟩
  · obtain ⟨ys, zs, vs, ws, rfl, s1, l1, s2, l2⟩ := vw g R h
    obtain ⟨p, v, w, rfl, hp, rfl, y1, y2⟩ := y
    obtain ⟨d1, hd1, rd1⟩ := l1.get' (y1 vs s1)
    obtain ⟨d2, hd2, rd2⟩ := l2.get' (y2 ws s2)
    obtain ⟨g2, R2, r2⟩ := pair_new R hp rd1 rd2
    have hz : (ys.zip zs)[i]? = some (d1, d2) := List.getElem?_zip_eq_some.mpr ⟨hd1, hd2⟩
    refine ⟨_, _, ?_, g2, R2, r2⟩
    rw [List.getElem?_map, hz]
    rfl
theorem RepK.get' : ∀ {v : List (Key × V)} {d : List (D × D)} {i : Nat} {k : Key} {u : V}, RepK T ι G v d → v[i]? = some (k, u) → ∃ x, d[i]? = some (kD k, x) ∧ keyK k ∧ RepD T ι G u x
  | _, _, _, _, _, .nil, h => by simp at h
  | _, _, 0, _, _, .cons hk hd hl, h => by
    simp at h
    obtain ⟨rfl, rfl⟩ := h
    exact ⟨_, rfl, hk, hd⟩
  | _, _, i + 1, _, _, .cons hk hd hl, h => by
    obtain ⟨x, h1, h2⟩ := RepK.get' (i := i) hl (by simpa using h)
    exact ⟨x, by simpa using h1, h2⟩
theorem RepT.get' : ∀ {v : List (List Key × V)} {d : List (D × D)} {i : Nat} {k : List Key} {u : V}, RepT T ι G v d → v[i]? = some (k, u) → ∃ x, d[i]? = some (.tup (k.map kD), x) ∧ (∀ y ∈ k, keyK y) ∧ RepD T ι G u x
  | _, _, _, _, _, .nil, h => by simp at h
  | _, _, 0, _, _, .cons hk hd hl, h => by
    simp at h
    obtain ⟨rfl, rfl⟩ := h
    exact ⟨_, rfl, hk, hd⟩
  | _, _, i + 1, _, _, .cons hk hd hl, h => by
    obtain ⟨x, h1, h2⟩ := RepT.get' (i := i) hl (by simpa using h)
    exact ⟨x, by simpa using h1, h2⟩
theorem rep_key {k : Key} (h : keyK k) : RepD T ι G (kV k) (kD k) := by
  cases k with
  | inl i => exact .int i
  | inr x => exact .str h
theorem rep_keys : ∀ {k : List Key}, (∀ y ∈ k, keyK y) → RepL T ι G (k.map kV) (k.map kD)
  | [], _ => .nil
  | x :: r, h => .cons (rep_key (h x List.mem_cons_self)) (rep_keys fun y hy => h y (List.mem_cons_of_mem _ hy))
/-- where a dict stands locked -/
def Lkd (T : Nam) (ι : List Addr) (G : Hp) (a : Addr) (u : HO) : Prop := ∀ ι' G' μ' H, Grow ι ι' G G' → RelH T ι' G' μ' H → H a = some u
theorem itd_keys {a : Addr} {o : Obj} {kvs : List (Key × V)} {ds : List (D × D)} {d : D} {k : ITK} {tg : Bool} (hl : Lkd T ι G a (.frz o (.dK kvs))) (r : RepK T ι G kvs ds) : ItD T (Itk a o kvs) ι G k [d] (ds.map fun p => p.1) tg where
  go := fun {i ι' G' μ' H} g R e t hi => ⟨hl _ _ _ _ g R, by rw [r.length]; rwa [List.length_map] at hi⟩
  stop := fun {i ι' G' μ' H} g R e t hi => ⟨hl _ _ _ _ g R, by rw [r.length]; rwa [List.length_map] at hi⟩
  yld := fun {i x ι' G' μ' H H'} g R e t hi y => by
    obtain ⟨rfl, key, v, hk, rfl⟩ := y
    obtain ⟨x, h1, h2, h3⟩ := r.get' hk
    exact ⟨kD key, _, by rw [List.getElem?_map, h1]; rfl, Grow.refl _ _, R, rep_key h2⟩
theorem itd_keysT {a : Addr} {o : Obj} {kvs : List (List Key × V)} {ds : List (D × D)} {d : D} {k : ITK} {tg : Bool} (hl : Lkd T ι G a (.frz o (.dT kvs))) (r : RepT T ι G kvs ds) : ItD T (Itkt a o kvs) ι G k [d] (ds.map fun p => p.1) tg where
  go := fun {i ι' G' μ' H} g R e t hi => ⟨hl _ _ _ _ g R, by rw [r.length]; rwa [List.length_map] at hi⟩
  stop := fun {i ι' G' μ' H} g R e t hi => ⟨hl _ _ _ _ g R, by rw [r.length]; rwa [List.length_map] at hi⟩
  yld := fun {i x ι' G' μ' H H'} g R e t hi y => by
    obtain ⟨rfl, key, v, p, hk, rfl, hp⟩ := y
    obtain ⟨x, h1, h2, h3⟩ := r.get' hk
    obtain ⟨G'', g2, R2, e2⟩ := R.know hp
    exact ⟨.tup (key.map kD), G'', by rw [List.getElem?_map, h1]; rfl, g2, R2, .tup e2 (rep_keys h2)⟩
theorem itd_items {a : Addr} {o : Obj} {kvs : List (Key × V)} {ds : List (D × D)} {d : D} {k : ITK} {tg : Bool} (hl : Lkd T ι G a (.frz o (.dK kvs))) (r : RepK T ι G kvs ds) : ItD T (Iti a o kvs) ι G k [d] (ds.map fun p => .tup [p.1, p.2]) tg where
  go := fun {i ι' G' μ' H} g R e t hi => ⟨hl _ _ _ _ g R, by rw [r.length]; rwa [List.length_map] at hi⟩
  stop := fun {i ι' G' μ' H} g R e t hi => ⟨hl _ _ _ _ g R, by rw [r.length]; rwa [List.length_map] at hi⟩
  yld := fun {i x ι' G' μ' H H'} g R e t hi y => by
    obtain ⟨p, key, v, hk, rfl, hp, rfl⟩ := y
    obtain ⟨x, h1, h2, h3⟩ := r.get' hk
    obtain ⟨g2, R2, r2⟩ := pair_new R hp (rep_key h2) (h3.mono g)
    exact ⟨_, _, by rw [List.getElem?_map, h1]; rfl, g2, R2, r2⟩
/-- a dict that is not written: frozen, or a cell that is locked -/
theorem lkd_of {μ : Store} {H : Hp} (R : RelH T ι G μ H) {v : V} {d : D} {t : Bool} {ds : List (D × D)} (r : RepD T ι G v d) (h : dicOf μ d = some (t, ds)) (hw : ∀ i, d = .cell i → ∀ t' kvs, μ[i]? ≠ some (.dic t' kvs)) :
    ∃ a o, v = .ref a ∧ ((t = false ∧ ∃ kvs, Lkd T ι G a (.frz o (.dK kvs)) ∧ RepK T ι G kvs ds) ∨ (t = true ∧ ∃ kvs, Lkd T ι G a (.frz o (.dT kvs)) ∧ RepT T ι G kvs ds)) := by
  cases r with
  | dicK h1 h2 =>
    cases h
    exact ⟨_, _, rfl, .inl ⟨rfl, _, fun ι' G' μ' H g R => R.fz.at_ _ _ (g.ex _ _ h1), h2⟩⟩
  | dicT h1 h2 =>
    cases h
    exact ⟨_, _, rfl, .inr ⟨rfl, _, fun ι' G' μ' H g R => R.fz.at_ _ _ (g.ex _ _ h1), h2⟩⟩
  | cell hi =>
    rename_i a i
    unfold Co.dicOf at h
    simp only at h
    split at h
    · rename_i t' ys hc
      exact absurd hc (hw i rfl _ _)
    · rename_i t' ys hc
      cases h
      cases R.cel i a _ hi hc with
      | ldicK h1 h2 h3 => exact ⟨a, _, rfl, .inl ⟨rfl, _, fun ι' G' μ' H g R => R.fz.at_ _ _ (g.ex _ _ h1), h3⟩⟩
      | ldicT h1 h2 h3 => exact ⟨a, _, rfl, .inr ⟨rfl, _, fun ι' G' μ' H g R => R.fz.at_ _ _ (g.ex _ _ h1), h3⟩⟩
    · cases h
  | _ => cases h
end
end Co

set_option linter.all false
set_option maxRecDepth 100000
set_option Elab.async false
/-! Ck3: the items of a dict with tuple keys, walked. -/
namespace Co
open PySem L2 PySem.W PySem.Calls PyProof.Rows PyProof.V PySem.Spec
def ItiT (d : Addr) (o : Obj) (kvs : List (List Key × V)) : It :=
  ⟨fun i H => H d = some (.frz o (.dT kvs)) ∧ i < kvs.length, fun i H x H' => ∃ (p : Addr) (k : List Key) (v : V) (q : Addr), kvs[i]? = some (k, v) ∧ x = .ref p ∧ H p = none ∧ H q = some (.tup (k.map kV)) ∧ H' = upd H p (.tup [.ref q, v]), fun i H => H d = some (.frz o (.dT kvs)) ∧ kvs.length ≤ i⟩
section
variable {X : Cx} {pins : List (Addr × Obj)} {σ : L2.St} {H : Hp} {s : Shared} {d : Addr} {o : Obj}
theorem frzT' {kvs : List (List Key × V)} (I : Inv X pins σ H s) (h : H d = some (.frz o (.dT kvs))) :
    (d == sysModules) = false ∧ s.heap.get? d = some o ∧ o.ExactDict ∧ ∃ (es : Array DictEntry) (ep : Nat), o.data = .dict es ep ∧ es.size = kvs.length ∧
      ∀ (i : Nat) (k : List Key) (v : V), kvs[i]? = some (k, v) → ∃ (en : DictEntry) (q : Addr), es[i]? = some en ∧ en.key = .ref q ∧ H q = some (.tup (k.map kV)) ∧ RelV v en.val := by
  obtain ⟨hd, z, hs, xs, pr, o', es, ep, ho, hx, hdt, he, _⟩ := I.hok d _ h
  rw [hd] at ho
  cases ho
  refine ⟨hs, hd, hx, es, ep, hdt, ?_, fun i k v e => ?_⟩
  · have l1 : es.size = xs.length := size_of_entries he
    have l2 : kvs.length = xs.length := Paired.length pr
    omega
  · obtain ⟨b, hb, e1, e2, e3⟩ := paired_get pr e
    have q := entry_at he i
    rw [hb] at q
    exact ⟨_, b.2.1, q, rfl, e2, e3⟩
end
section
variable {P : Program} {w : World} {K : PySem.W.Frag} {tg : Expr} {d : Addr} {o : Obj} {es : Array DictEntry} {ep : Nat}
theorem turn_itemsT {kvs : List (List Key × V)} {elts : List Expr} {kk : Nat} {tpos : Pos} (it : Addr) (hod : o.data = .dict es ep) :
    Turn P w K (.Tuple elts kk tpos) (ItiT d o kvs) [it] it (fun i h => ∃ ok ov, IsItemIter h it d i kvs.length ep ok ov) where
  mem := by simp
  obj := fun i h st b hb => by
    have e : b = it := by simpa using hb
    subst e
    obtain ⟨ok, ov, e⟩ := st
    exact ⟨_, e, fun v z => nomatch z⟩
  keep := fun i h h' st k => let ⟨ok, ov, e⟩ := st; ⟨ok, ov, k it (by simp) _ e⟩
  item := by
    intro X hP hw hK hc i pins s σ H E I hf st hg
    subst hP hw hK
    obtain ⟨hd, hi⟩ := hg
    obtain ⟨hs, hgd, hx, es', ep', hdt, hsz, ent⟩ := frzT' I hd
    obtain ⟨rfl, rfl⟩ := dict_ep hod hdt
    obtain ⟨⟨k, v⟩, hkv⟩ : ∃ p, kvs[i]? = some p := ⟨kvs[i], List.getElem?_eq_getElem hi⟩
    obtain ⟨en, q, hen, hkey, hq, hv⟩ := ent i k v hkv
    obtain ⟨ok, ov, he⟩ := st
    rw [← hsz] at he
    have hi' : i < es'.size := by omega
    have een : es'[i] = en := by
      rw [Array.getElem?_eq_getElem hi'] at hen
      exact Option.some.inj hen
    have hlt : it < s.heap.objs.size := Heap.lt_size he
    have hm : DT.Raw s.heap d es' ep' := ⟨o, hgd, hx, hdt⟩
    refine DT.nextI he hm hi' fun h' ho hT hz hk => ?_
    rw [een] at ho hT
    refine ⟨_, rfl, wpAny_letOwnedTupleGo_items (s := { s with heap := h' }) ho fun h'' he' sb => ?_⟩
    have hT2 : h''.get? s.heap.objs.size = some { cls := .type "tuple", data := .seq #[en.key, en.val] } := (sb.2 _ (Nat.ne_of_gt hlt)).trans hT
    rw [hkey] at hT2
    have new : ObjOk X.prog X.w (upd H s.heap.objs.size (.tup [.ref q, v])) h'' s.heap.objs.size (.tup [.ref q, v]) :=
      ⟨by show 2 ≤ sizeLine; decide, [Value.ref q, en.val], .cons (show RelV (.ref q) (Value.ref q) from rfl) (.cons hv .nil), ⟨_, hT2, rfl, _, rfl⟩⟩
    have I1 : Inv X pins σ (upd H s.heap.objs.size (.tup [.ref q, v])) { s with heap := h'' } :=
      I.turnedNew (t' := s.toks) (ch := [it]) (fun b ob hb e => (sb.2 b (by simpa using hb)).trans (hk b ob (by simpa using hb) e)) hf (Nat.le_refl _) new
    refine ⟨.ref s.heap.objs.size, _, I1, rfl, ⟨_, k, v, q, hkv, rfl, I.hok.fresh (Nat.le_refl _), hq, rfl⟩, ⟨en.key, en.val, ?_⟩, fun b hb => ?_⟩
    · rw [← hsz]; exact he'
    · have e : b = it := by simpa using hb
      rw [e, upd_ne (Nat.ne_of_lt hlt)]
      exact (hf it (by simp)).1
  done := by
    intro X hP hw hK hc i pins s σ H E I hf st hg
    subst hP hw hK
    obtain ⟨hd, hi⟩ := hg
    obtain ⟨f0, f1, f2, f3, f4, f5⟩ := hf it (by simp)
    obtain ⟨hs, hgd, hx, es', ep', hdt, hsz, ent⟩ := frzT' I hd
    obtain ⟨rfl, rfl⟩ := dict_ep hod hdt
    obtain ⟨ok, ov, he⟩ := st
    rw [← hsz] at he
    have hm : DT.Raw s.heap d es' ep' := ⟨o, hgd, hx, hdt⟩
    exact DT.endI (I.ok.hd hc) he hm (by omega) fun h' eb => ⟨rfl, I.turned (t' := s.toks) (fun b ob hb e => eb b ob hb e) f0 f1 f3 f4 f5⟩
  self := fun A i s Q E st h => let ⟨_, _, e⟩ := st; PySem.W.kcp_self e h
end
def iItemsT (td : TE) : TI := fun σ H R => td σ H fun x H1 => ∃ d o kvs, x = .ref d ∧ H1 d = some (.frz o (.dT kvs)) ∧ R (ItiT d o kvs) H1
section
variable {X : Cx} {tg e : Expr} {td : TE} {apos cpos : Pos}
theorem pi_itemsT {elts : List Expr} {kk : Nat} {tpos : Pos} (he : PE X e td) (hbase : attributeBase e "items" X.env (eval e X.env) = eval e X.env := by rfl) (hline : (apos.endLine == cpos.line) = true := by rfl) :
    PI X (.Tuple elts kk tpos) (.Call (.Attribute e "items" apos) [] [] cpos) (iItemsT td) := by
  refine ⟨fun pins s σ H R I h => ?_⟩
  refine wpAny_Call_method (T := "dict") (id := "dict.items") hbase rfl hline F.plainAttrs_dict F.slot_dict_items F.type_dict_items (thn (he.run pins s σ H _ I h) fun u s1 ⟨x, H1, I1, rx, d, o, kvs, ex, hd, q⟩ => ?_)
  subst ex
  obtain rfl : u = Value.ref d := rx
  obtain ⟨hs, hgd, hx, es, ep, hdt, hsz, ent⟩ := frzT' I1 hd
  have hm : DT.Raw s1.heap d es ep := ⟨o, hgd, hx, hdt⟩
  refine ⟨hm.typeIs, fun z hz => ?_, ?_⟩
  · cases hz
    exact ⟨o, hgd, hx.2.1⟩
  have I2 : Inv X pins σ H1 { s1 with heap := s1.heap.push { cls := .type "dict_items", data := .fields #[.ref d] } } := I1.kept (t' := s1.toks) fun b ob q => Heap.get?_push_of_some _ q
  have fin : wpAny (model X.prog X.w) X.A (pyIter (.ref s1.heap.objs.size)) (PIE X pins σ (.Tuple elts kk tpos) R) X.xe { s1 with heap := s1.heap.push { cls := .type "dict_items", data := .fields #[.ref d] } } := by
    refine DT.iterI (d := d) (es := es) (ep := ep) ⟨_, Heap.get?_push_size _ rfl, rfl, rfl⟩ (hm.push _) (pi_one (tk := s1.toks) I2 _ (turn_itemsT _ hdt) ⟨.none, .none, ?_⟩ q)
    rw [← hsz]
    exact Heap.get?_push_size _ rfl
  show wpAny _ _ (callWith cpos (.builtin "dict.items") [.ref d] [] []) _ X.xe s1
  exact method_meetsIn F.slot_dict_items F.entry_dict_items rfl (PySem.evalArgs_none ⟨rfl, hm.typeIs, F.args_dict_items_1 _, _, DT.meetsItems (es := es) (ep := ep) hs, ⟨hm, fin⟩⟩)
end
section
variable {T : Nam} {ι : List Addr} {G : Hp}
theorem itd_itemsT {a : Addr} {o : Obj} {kvs : List (List Key × V)} {ds : List (D × D)} {d : D} {k : ITK} {tg : Bool} (hl : Lkd T ι G a (.frz o (.dT kvs))) (r : RepT T ι G kvs ds) : ItD T (ItiT a o kvs) ι G k [d] (ds.map fun p => .tup [p.1, p.2]) tg where
  go := fun {i ι' G' μ' H} g R e t hi => ⟨hl _ _ _ _ g R, by rw [r.length]; rwa [List.length_map] at hi⟩
  stop := fun {i ι' G' μ' H} g R e t hi => ⟨hl _ _ _ _ g R, by rw [r.length]; rwa [List.length_map] at hi⟩
  yld := fun {i x ι' G' μ' H H'} g R e t hi y => by
    obtain ⟨p, key, v, q, hk, rfl, hp, hq, rfl⟩ := y
    obtain ⟨x, h1, h2, h3⟩ := r.get' hk
    obtain ⟨G2, g2, R2, e2⟩ := R.know hq
    obtain ⟨g3, R3, r3⟩ := pair_new R2 hp (.tup e2 (rep_keys h2)) ((h3.mono g).mono g2)
    exact ⟨_, _, by rw [List.getElem?_map, h1]; rfl, g2.trans g3, R3, r3⟩
end
end Co

set_option linter.all false
set_option maxRecDepth 100000
set_option Elab.async false
/-! Co17: the rules for what is walked. -/
namespace Co
open PySem L2
variable {q : Cq} {sc : Scope} {N : List Str} {W : WX} {X : Cx}
theorem PI.dyn {tg e : Expr} {t' : TI} (h : ∀ σ H R, t' σ H R → ∃ t, PI X tg e t ∧ t σ H R) : PI X tg e t' := ⟨fun pins s σ H R I q => by
  obtain ⟨t, h1, h2⟩ := h σ H R q
  exact h1.run pins s σ H R I h2⟩
def CtI (T : Nam) (W : WX) (σ : L2.St) (ι : List Addr) (G : Hp) (k : ITK) (r : RA) (R : It → Hp → Prop) : Prop := match r with
  | .ok ds μ => ∃ xs, itemsOf μ k ds = some xs ∧ walkedC μ k ds = none ∧ ∀ ι' G' H J, Grow ι ι' G G' → RelH T ι' G' μ H → ItD T J ι' G' k ds xs (tagOf μ ds) → R J H
  | .ex x μ => ∀ (cls : Value) (dd : Option Addr) (ι' : List Addr) (G' H : Hp), Grow ι ι' G G' → RelH T ι' G' μ H → RepX T ι' G' H cls dd x → W cls dd σ H
  | .bad => False
def tI (q : Cq) (W : WX) (k : ITK) (c : CE) : TI := fun σ H R => ∃ (env : Env) (μ : Store) (ι : List Addr) (G : Hp), RelH q.T ι G μ H ∧ RelS q.T ι G env σ ∧ CtI q.T W σ ι G k (evA q.P q.call c env μ) R
theorem CtI.toA {T : Nam} {σ : L2.St} {ι : List Addr} {G : Hp} {k : ITK} {r : RA} {R : It → Hp → Prop} {Q : List V → Hp → Prop} (c : CtI T W σ ι G k r R)
    (h : ∀ ds μ1 vs ι' G' H xs, itemsOf μ1 k ds = some xs → walkedC μ1 k ds = none → RelH T ι' G' μ1 H → RepL T ι' G' vs ds → (∀ J, ItD T J ι' G' k ds xs (tagOf μ1 ds) → R J H) → Q vs H) : CtA T W σ ι G r Q := by
  cases r with
  | bad => exact c
  | ex y μ1 => exact c
  | ok ds μ1 =>
    obtain ⟨xs, hx, hw, k⟩ := c
    exact fun vs ι' G' H g r rl => h ds μ1 vs ι' G' H xs hx hw r rl fun J d => k ι' G' H J g r d
/-- one thing walked -/
theorem CtI.one {σ : L2.St} {ι : List Addr} {G : Hp} {k : ITK} {a : CE} {env : Env} {μ : Store} {R : It → Hp → Prop} (c : CtI q.T W σ ι G k (evA q.P q.call (.acons a .anil) env μ) R) :
    (∃ d μ1 xs, evE q.P q.call a env μ = .ok d μ1 ∧ itemsOf μ1 k [d] = some xs ∧ walkedC μ1 k [d] = none ∧ ∀ ι' G' H J, Grow ι ι' G G' → RelH q.T ι' G' μ1 H → ItD q.T J ι' G' k [d] xs (tagOf μ1 [d]) → R J H) ∨
      ∃ y μ1, evE q.P q.call a env μ = .ex y μ1 ∧ ∀ Q, Ct q.T W σ ι G (.ex y μ1) Q := by
  have c' : CtI q.T W σ ι G k ((evE q.P q.call a env μ).bind fun d μ => Res.ok [d] μ) R := c
  cases ea : evE q.P q.call a env μ with
  | bad => rw [ea] at c'; exact c'.elim
  | ex y μ1 =>
    rw [ea] at c'
    exact .inr ⟨y, μ1, rfl, fun Q => c'⟩
  | ok d μ1 =>
    rw [ea] at c'
    obtain ⟨xs, hx, hw, k⟩ := c'
    exact .inl ⟨d, μ1, xs, rfl, hx, hw, k⟩
theorem seq_lst {μ : Store} {d : D} {xs : List D} (h : itemsOf μ .seq [d] = some xs) (hs : ∀ z, d ≠ .str z) (hd : dicOf μ d = none) : seqOf μ d = some xs := by
  unfold itemsOf at h
  cases d <;> simp only [hd] at h <;> first | exact h | exact absurd rfl (hs _)
theorem cell_lst' {μ : Store} {i : Nat} {xs : List D} (h : itemsOf μ .seq [.cell i] = some xs) (hd : tagOf μ [.cell i] = false) : lstOf μ (.cell i) = some xs :=
  seq_lst h (fun _ e => nomatch e) (by
    have h2 : (dicOf μ (.cell i)).isSome = false := hd
    cases e : dicOf μ (.cell i) with
    | none => rfl
    | some _ => rw [e] at h2; cases h2)
theorem walked_cell {μ : Store} {i : Nat} (h : walkedC μ .seq [.cell i] = none) : ∀ j, D.cell i = .cell j → ∀ t' kvs, μ[j]? ≠ some (.dic t' kvs) := fun j e t' kvs z => by
  cases e
  simp [walkedC, z] at h
theorem walked_cell2 {μ : Store} {i : Nat} (h : walkedC μ .items [.cell i] = none) : ∀ j, D.cell i = .cell j → ∀ t' kvs, μ[j]? ≠ some (.dic t' kvs) := fun j e t' kvs z => by
  cases e
  simp [walkedC, z] at h
theorem pi_seq (x : XOk q sc N W X) {a : CE} {tg e : Expr} (ha : PE X e (tE q W a)) : PI X tg e (tI q W .seq (.acons a .anil)) := by
  refine PI.dyn fun σ H R ⟨env, μ, ι, G, R0, S, c⟩ => ?_
  rcases c.one with ⟨d, μ1, xs, ea, hx, hw, k⟩ | ⟨y, μ1, ea, ke⟩
  · -- a dict
    have dictC : ∀ t ds, dicOf μ1 d = some (t, ds) → (∀ i, d = .cell i → ∀ t' kvs, μ1[i]? ≠ some (.dic t' kvs)) → (∀ z, d ≠ .str z) → ∃ t, PI X tg e t ∧ t σ H R := fun t ds hd hnc hs => by
      refine ⟨_, pi_keys ha, env, μ, ι, G, R0, S, ?_⟩
      rw [ea]
      intro v ι' G' H' g r rv
      have hx' : xs = ds.map fun p => p.1 := by
        unfold itemsOf at hx
        cases d <;> simp only [hd, Option.some.injEq] at hx <;> first | exact hx.symm | exact absurd rfl (hs _)
      obtain ⟨p, o, rfl, h⟩ := lkd_of r rv hd hnc
      rcases h with ⟨_, kvs, hl, hr⟩ | ⟨_, kvs, hl, hr⟩
      · exact ⟨p, o, rfl, .inl ⟨kvs, hl _ _ _ _ (Grow.refl _ _) r, k _ _ _ _ g r (by rw [hx']; exact itd_keys hl hr)⟩⟩
      · exact ⟨p, o, rfl, .inr ⟨kvs, hl _ _ _ _ (Grow.refl _ _) r, k _ _ _ _ g r (by rw [hx']; exact itd_keysT hl hr)⟩⟩
    have lstC : (∀ μ', itemsOf μ' .seq [d] = some xs → tagOf μ' [d] = false → lstOf μ' d = some xs) → tagOf μ1 [d] = false → ∃ t, PI X tg e t ∧ t σ H R := fun h ht => by
      refine ⟨_, pi_list ha, env, μ, ι, G, R0, S, ?_⟩
      rw [ea]
      intro v ι' G' H' g r rv
      obtain ⟨p, vs, rfl, h1, h2⟩ := r.lstOf rv (h _ hx ht)
      have := k _ _ _ _ g r (by rw [ht]; exact itd_lst rv h)
      rw [x.eK]
      exact ⟨p, rfl, ⟨vs, .inl h1⟩, this⟩
    have tupC : ∀ ys, d = .tup ys ∨ d = .wtup ys → ∃ t, PI X tg e t ∧ t σ H R := fun ys h => by
      have hx' : ys = xs := by
        rcases h with rfl | rfl <;> · cases hx; rfl
      have ht : tagOf μ1 [d] = false := by rcases h with rfl | rfl <;> rfl
      refine ⟨_, pi_tup ha, env, μ, ι, G, R0, S, ?_⟩
      rw [ea, x.eK]
      intro v ι' G' H' g r rv
      have hg : ∃ p vs, v = .ref p ∧ SqT q.T.K G' p vs ∧ RepL q.T ι' G' vs ys := by
        rcases h with rfl | rfl
        · cases rv with
          | tup e l => exact ⟨_, _, rfl, .inl (.inl e), l⟩
        · cases rv with
          | wtup e l => exact ⟨_, _, rfl, e, l⟩
      obtain ⟨p, vs, rfl, h1, h2⟩ := hg
      exact ⟨p, rfl, ⟨vs, r.fz.sqt h1⟩, k _ _ _ _ g r (by rw [ht, ← hx']; exact itd_tup h1 h2)⟩
    cases d with
    | str z =>
      refine ⟨_, pi_str ha, env, μ, ι, G, R0, S, ?_⟩
      rw [ea]
      intro v ι' G' H' g r rv
      cases rv with
      | str hk =>
        cases hx
        exact ⟨z, rfl, k _ _ _ _ g r (itd_str hk)⟩
    | tup ys => exact tupC ys (.inl rfl)
    | wtup ys => exact tupC ys (.inr rfl)
    | lst ys => exact lstC (fun μ' h _ => h) rfl
    | dic t kvs => exact dictC t kvs rfl (fun i e => nomatch e) (fun z e => nomatch e)
    | cell i =>
      cases hd : dicOf μ1 (.cell i) with
      | some p => exact dictC p.1 p.2 hd (walked_cell hw) (fun z e => nomatch e)
      | none => exact lstC (fun μ' h ht => cell_lst' h ht) (by
          show (dicOf μ1 (.cell i)).isSome = false
          rw [hd]; rfl)
    | _ => cases hx
  · exact ⟨_, pi_list ha, env, μ, ι, G, R0, S, by rw [ea]; exact ke _⟩
theorem blt_mg (x : XOk q sc N W X) {y : Str} (h : y ∈ blts) : X.mg y = none := x.lk.blt y h
theorem items_rng1 {μ : Store} : ∀ {ds xs : List D}, itemsOf μ .rng1 ds = some xs → ∃ n, ds = [.int n] ∧ inR n = true ∧ xs = (List.range n.toNat).map fun (i : Nat) => D.int (i : Int)
  | [.int n], xs, h => by
    have h' : (if inR n then some ((List.range n.toNat).map fun (i : Nat) => D.int (i : Int)) else none) = some xs := h
    split at h'
    · cases h'
      exact ⟨n, rfl, by assumption, rfl⟩
    · cases h'
  | [], _, h => by cases h
  | a :: b :: _, _, h => by cases a <;> cases h
  | [.non], _, h => by cases h
  | [.bl _], _, h => by cases h
  | [.str _], _, h => by cases h
  | [.tup _], _, h => by cases h
  | [.wtup _], _, h => by cases h
  | [.lst _], _, h => by cases h
  | [.dic _ _], _, h => by cases h
  | [.ins _ _], _, h => by cases h
  | [.cell _], _, h => by cases h
theorem items_rng2 {μ : Store} : ∀ {ds xs : List D}, itemsOf μ .rng2 ds = some xs → ∃ n m, ds = [.int n, .int m] ∧ inR n = true ∧ inR m = true ∧ xs = (List.range (m - n).toNat).map fun (i : Nat) => D.int (n + (i : Int))
  | [.int n, .int m], xs, h => by
    have h' : (if inR n && inR m then some ((List.range (m - n).toNat).map fun (i : Nat) => D.int (n + (i : Int))) else none) = some xs := h
    split at h'
    · rename_i hr
      cases h'
      rw [Bool.and_eq_true] at hr
      exact ⟨n, m, rfl, hr.1, hr.2, rfl⟩
    · cases h'
  | [], _, h => by cases h
  | [a], _, h => by cases a <;> cases h
  | [a, b], _, h => by
    cases a with
    | int n => cases b with
      | int m =>
        have h' : (if inR n && inR m then some ((List.range (m - n).toNat).map fun (i : Nat) => D.int (n + (i : Int))) else none) = some _ := h
        split at h'
        · rename_i hr
          cases h'
          rw [Bool.and_eq_true] at hr
          exact ⟨n, m, rfl, hr.1, hr.2, rfl⟩
        · cases h'
      | _ => cases h
    | _ => cases b <;> cases h
  | a :: b :: _ :: _, _, h => by cases a <;> first | cases h | (cases b <;> cases h)
theorem pi_rng1 (x : XOk q sc N W X) {as : CE} {tg e : Expr} {p pos : Pos} (hg : glB sc "range" = true) (hp : plE e = true) (ha : PA X [e] (tA q W as)) : PI X tg (.Call (.Name "range" p) [e] [] pos) (tI q W .rng1 as) := by
  refine PI.dyn fun σ H R ⟨env, μ, ι, G, R0, S, c⟩ => ⟨_, pi_range1 (x.gl hg) (blt_mg x (by decide)) ha (pl_star hp [] X.env), env, μ, ι, G, R0, S, c.toA fun ds μ1 vs ι' G' H xs hx hw r rl k => ?_⟩
  obtain ⟨n, rfl, hr, rfl⟩ := items_rng1 hx
  cases rl with
  | cons h1 h2 =>
    cases h1
    cases h2
    have hr' := of_decide_eq_true hr
    exact ⟨n, rfl, hr'.1, hr'.2, k _ (itd_rng (by simp))⟩
theorem pi_rng2 (x : XOk q sc N W X) {as : CE} {tg e f : Expr} {p pos : Pos} (hg : glB sc "range" = true) (hp : plE e = true) (hp2 : plE f = true) (ha : PA X [e, f] (tA q W as)) : PI X tg (.Call (.Name "range" p) [e, f] [] pos) (tI q W .rng2 as) := by
  refine PI.dyn fun σ H R ⟨env, μ, ι, G, R0, S, c⟩ => ⟨_, pi_range2 (x.gl hg) (blt_mg x (by decide)) ha (by rw [pl_star hp, pl_star hp2]; rfl) (pl_star hp2 [] X.env), env, μ, ι, G, R0, S, c.toA fun ds μ1 vs ι' G' H xs hx hw r rl k => ?_⟩
  obtain ⟨n, m, rfl, hr1, hr2, rfl⟩ := items_rng2 hx
  cases rl with
  | cons h1 h2 =>
    cases h1
    cases h2 with
    | cons h3 h4 =>
      cases h3
      cases h4
      have h1 := of_decide_eq_true hr1
      have h2 := of_decide_eq_true hr2
      exact ⟨n, m, rfl, ⟨h1.1, h1.2, h2.1, h2.2⟩, k _ (itd_rng rfl)⟩
theorem pi_enu (x : XOk q sc N W X) {as : CE} {e : Expr} {elts : List Expr} {kk : Nat} {tpos p pos : Pos} (hg : glB sc "enumerate" = true) (hp : plE e = true) (ha : PA X [e] (tA q W as)) : PI X (.Tuple elts kk tpos) (.Call (.Name "enumerate" p) [e] [] pos) (tI q W .enum as) := by
  refine PI.dyn fun σ H R ⟨env, μ, ι, G, R0, S, c⟩ => ⟨_, pi_enum (x.gl hg) (blt_mg x (by decide)) ha (pl_star hp [] X.env), env, μ, ι, G, R0, S, c.toA fun ds μ1 vs ι' G' H xs hx hw r rl k => ?_⟩
  cases ds with
  | nil => cases hx
  | cons d ds => cases ds with
    | cons _ _ => cases hx
    | nil =>
      have hx' : (lstOf μ1 d).map (enumD 0) = some xs := hx
      obtain ⟨ys, hy, rfl⟩ := Option.map_eq_some_iff.mp hx'
      cases rl with
      | cons h1 h2 =>
        cases h2
        obtain ⟨a, us, rfl, s1, l1⟩ := r.lstOf h1 hy
        rw [x.eK]
        exact ⟨a, us, rfl, .inl s1, k _ (itd_enum h1)⟩
theorem pi_zi (x : XOk q sc N W X) {as : CE} {e f : Expr} {elts : List Expr} {kk : Nat} {tpos p pos : Pos} (hg : glB sc "zip" = true) (hp : plE e = true) (hp2 : plE f = true) (ha : PA X [e, f] (tA q W as)) : PI X (.Tuple elts kk tpos) (.Call (.Name "zip" p) [e, f] [] pos) (tI q W .zip as) := by
  refine PI.dyn fun σ H R ⟨env, μ, ι, G, R0, S, c⟩ => ⟨_, pi_zip (x.gl hg) (blt_mg x (by decide)) ha (by rw [pl_star hp]) (by rw [pl_star hp2]; rfl), env, μ, ι, G, R0, S, c.toA fun ds μ1 vs ι' G' H xs hx hw r rl k => ?_⟩
  cases ds with
  | nil => cases hx
  | cons d ds => cases ds with
    | nil => cases hx
    | cons d2 ds => cases ds with
      | cons _ _ => cases hx
      | nil =>
        have hx' : (match lstOf μ1 d, lstOf μ1 d2 with
          | some xs, some ys => some ((xs.zip ys).map fun p => D.tup [p.1, p.2])
          | _, _ => none) = some xs := hx
        split at hx'
        · rename_i ys zs hy hz
          cases rl with
          | cons h1 h2 => cases h2 with
            | cons h3 h4 =>
              cases h4
              obtain ⟨a, us, rfl, s1, l1⟩ := r.lstOf h1 hy
              obtain ⟨b, ws, rfl, s2, l2⟩ := r.lstOf h3 hz
              rw [x.eK]
              exact ⟨a, b, us, ws, rfl, .inl s1, .inl s2, k _ (itd_zip h1 h3)⟩
        · cases hx'
theorem pi_rv (x : XOk q sc N W X) {a : CE} {tg e : Expr} {p pos : Pos} (hg : glB sc "reversed" = true) (hp : plE e = true) (ha : PE X e (tE q W a)) : PI X tg (.Call (.Name "reversed" p) [e] [] pos) (tI q W .rev (.acons a .anil)) := by
  refine PI.dyn fun σ H R ⟨env, μ, ι, G, R0, S, c⟩ => ⟨_, RT.pi_revA (x.gl hg) (blt_mg x (by decide)) ha (pl_star hp [] X.env), env, μ, ι, G, R0, S, ?_⟩
  rcases c.one with ⟨d, μ1, xs, ea, hx, hw, k⟩ | ⟨y, μ1, ea, ke⟩
  · rw [ea, x.eK]
    intro v ι' G' H' g r rv
    have hx' : (lstOf μ1 d).map List.reverse = some xs := hx
    obtain ⟨ys, hy, rfl⟩ := Option.map_eq_some_iff.mp hx'
    obtain ⟨a, us, rfl, s1, l1⟩ := r.lstOf rv hy
    exact ⟨a, us, rfl, .inl ⟨.inl s1, k _ _ _ _ g r (itd_rev rv (by rw [List.length_reverse]; exact l1.length) fun μ' h => by
      have h' : (lstOf μ' d).map List.reverse = some ys.reverse := h
      obtain ⟨zs, hz, e⟩ := Option.map_eq_some_iff.mp h'
      exact ⟨zs, hz, e.symm⟩)⟩⟩
  · rw [ea]
    exact ke _
theorem pi_it (x : XOk q sc N W X) {a : CE} {e : Expr} {elts : List Expr} {kk : Nat} {tpos apos cpos : Pos} (hn : noSup e = true) (hl : (apos.endLine == cpos.line) = true) (ha : PE X e (tE q W a)) :
    PI X (.Tuple elts kk tpos) (.Call (.Attribute e "items" apos) [] [] cpos) (tI q W .items (.acons a .anil)) := by
  refine PI.dyn fun σ H R ⟨env, μ, ι, G, R0, S, c⟩ => ?_
  rcases c.one with ⟨d, μ1, xs, ea, hx, hw, k⟩ | ⟨y, μ1, ea, ke⟩
  · cases hd : dicOf μ1 d with
    | none => simp only [itemsOf, hd] at hx; cases hx
    | some p =>
      obtain ⟨t, ds⟩ := p
      simp only [itemsOf, hd, Option.some.injEq] at hx
      have hnc : ∀ i, d = .cell i → ∀ t' kvs, μ1[i]? ≠ some (.dic t' kvs) := by
        cases d with
        | cell i => exact walked_cell2 hw
        | _ => exact fun i e => nomatch e
      cases t with
      | false =>
        refine ⟨_, pi_items ha (att_base hn _ _ _) hl, env, μ, ι, G, R0, S, ?_⟩
        rw [ea]
        intro v ι' G' H' g r rv
        obtain ⟨p, o, rfl, h⟩ := lkd_of r rv hd hnc
        rcases h with ⟨_, kvs, hl, hr⟩ | ⟨h, _⟩
        · exact ⟨p, o, kvs, rfl, hl _ _ _ _ (Grow.refl _ _) r, k _ _ _ _ g r (by rw [← hx]; exact itd_items hl hr)⟩
        · cases h
      | true =>
        refine ⟨_, pi_itemsT ha (att_base hn _ _ _) hl, env, μ, ι, G, R0, S, ?_⟩
        rw [ea]
        intro v ι' G' H' g r rv
        obtain ⟨p, o, rfl, h⟩ := lkd_of r rv hd hnc
        rcases h with ⟨h, _⟩ | ⟨_, kvs, hl, hr⟩
        · cases h
        · exact ⟨p, o, kvs, rfl, hl _ _ _ _ (Grow.refl _ _) r, k _ _ _ _ g r (by rw [← hx]; exact itd_itemsT hl hr)⟩
  · refine ⟨_, pi_items ha (att_base hn _ _ _) hl, env, μ, ι, G, R0, S, ?_⟩
    rw [ea]
    exact ke _
end Co

set_option linter.all false
set_option maxRecDepth 100000
set_option Elab.async false
/-! Co18: comprehensions. -/
namespace Co
open PySem L2
variable {q : Cq} {sc : Scope} {N : List Str} {W : WX} {X : Cx}
abbrev W0 : WX := fun _ _ _ _ => False
theorem XOk.blk (x : XOk q sc N W X) (s : Shared) (H : Hp) (scope : Scope) (C : Addr) (cl : List (Str × Addr)) (fp : List Addr) : XOk q.nomk (relS scope sc) N W0 (X.blk s H scope (compEnvC scope cl C X.env) fp) where
  eK := x.eK
  eS := by
    rw [← x.eS]
    rfl
  eN := x.eN
  nd := x.nd
  calm := x.calm
  room := x.room
  tk := fun u s' h => by
    obtain ⟨a, B, sI, pins, σ, H, cls, d, e, I, nb, up, sky, na, os, ag, w⟩ := h
    exact w.elim
  lk := x.lk.nomk
  fns := fun f hl h => ⟨(x.fns f hl h).ex⟩
  lams := x.lams
  lmk := fun ql h => by cases h
theorem XOk.blkG (x : XOk q sc N W X) (s : Shared) (H : Hp) (scope : Scope) (C : Addr) (cl : List (Str × Addr)) (fp : List Addr) : GOk q (relS scope sc) N false (X.blk s H scope (compEnvC scope cl C X.env) fp) where
  eK := x.eK
  eS := by
    rw [← x.eS]
    rfl
  eN := x.eN
  nd := x.nd
  calm := x.calm
  fnl := fun h => by cases h
/-- the ifs of a comprehension -/
def tIf (q : Cq) (ifs : List Expr) (c : CE) : TT := match ifs with
  | [] => tYes
  | _ => tT q W0 c
def ifB (ifs : List Expr) (c : CE) : Prop := match ifs with
  | [] => c = .lit (.bl true)
  | [_] => True
  | _ => False
/-- to the end of the turns -/
abbrev CtU (T : Nam) := GCt T (fun (_ : List Addr) (_ : Hp) (_ : Unit) (_ : Unit) => True) W0
theorem lc_turns {k : ITK} {c e : CE} {tg : TGT} {ifs : List Expr} {own : List Nat} {env0 : Env} {ds xs : List D} {μ1 : Store} {σ : L2.St} {ι : List Addr} {G H1 : Hp} {J : It} {p : Addr} {Qd : Hp → Prop} {n0 : Nat} (R : RelH q.T ι G μ1 H1) (S : RelS q.T ι G env0 (wipe σ own))
    (hx : itemsOf μ1 k ds = some xs) (hJ : ItD q.T J ι G k ds xs (tagOf μ1 ds)) (hp : H1 p = none) (hi : ifB ifs c) (hg : tgIn own tg = true) (hn : n0 = μ1.length)
    (hc : CtU q.T σ (ι ++ [p]) G (lcL (evE q.P q.call c) (evE q.P q.call e) tg (stayB μ1 k ds xs) n0 xs env0 (μ1 ++ [.lst []])) (fun _ H => Qd H)) :
    ∃ W : Nat → Nat → Hp → Prop, (∃ m, W 0 m (upd H1 p (.lst []))) ∧ ∀ i m H, W i m H →
      (J.stop i H ∧ Qd H) ∨ (J.go i H ∧ ∃ Nx : Hp → Prop, (∀ H', Nx H' → ∃ m', m' < m ∧ W (i + 1) m' H') ∧ ∀ x H', J.yld i H x H' → tG q.T tg x (wipe σ own) H' fun σ2 H2 => wipe σ2 own = wipe σ own ∧ tIf q ifs c σ2 H2 fun b H3 =>
        if b = true then tE q W0 e σ2 H3 fun y H4 => ∃ acc, H4 p = some (.lst acc) ∧ acc.length < sizeLine ∧ Nx (upd H4 p (.lst (acc ++ [y]))) else Nx H3) := by
  have gcell := Grow.cell ι G p
  have R1 := R.cell (c := .lst []) (o := .lst []) hp (.lst (R.fz.free hp) upd_same .nil)
  have hpi : (ι ++ [p])[n0]? = some p := by rw [hn, ← R.len]; simp
  refine ⟨fun i m H => m = xs.length - i ∧ i ≤ xs.length ∧ ∃ (ι' : List Addr) (G' : Hp) (μ' : Store), Grow (ι ++ [p]) ι' G G' ∧ RelH q.T ι' G' μ' H ∧
    CtU q.T σ ι' G' (lcL (evE q.P q.call c) (evE q.P q.call e) tg (stayB μ1 k ds xs) n0 (xs.drop i) env0 μ') (fun _ H => Qd H), ⟨_, rfl, Nat.zero_le _, _, _, _, Grow.refl _ _, R1, hc⟩, ?_⟩
  rintro i m H ⟨rfl, hle, ι', G', μ', g, R', cc⟩
  have gJ := gcell.trans g
  by_cases hlt : i < xs.length
  · have hd : xs.drop i = xs[i] :: xs.drop (i + 1) := List.drop_eq_getElem_cons hlt
    rw [hd] at cc
    unfold lcL at cc
    split at cc
    · rename_i hst
      unfold stayB at hst
      rw [Bool.and_eq_true, decide_eq_true_eq, beq_iff_eq] at hst
      refine .inr ⟨hJ.go gJ R' hst.1 hst.2 hlt, fun H' => xs.length - (i + 1) = xs.length - (i + 1) ∧ i + 1 ≤ xs.length ∧ ∃ (ι' : List Addr) (G' : Hp) (μ' : Store), Grow (ι ++ [p]) ι' G G' ∧ RelH q.T ι' G' μ' H' ∧
        CtU q.T σ ι' G' (lcL (evE q.P q.call c) (evE q.P q.call e) tg (stayB μ1 k ds xs) n0 (xs.drop (i + 1)) env0 μ') (fun _ H => Qd H), fun H' h => ⟨_, by omega, h⟩, fun v H' hy => ?_⟩
      obtain ⟨d, G2, hd2, g2, R2, rd⟩ := hJ.yld gJ R' hst.1 hst.2 hlt hy
      rw [List.getElem?_eq_getElem hlt] at hd2
      cases hd2
      split at cc
      · exact cc.elim
      · rename_i env' ha
        refine ⟨ι', G2, μ', env0, env', _, R2, S.mono (gJ.trans g2), rd, ha, fun σ' S' hl hw => ⟨by rw [hw own hg, wipe_wipe fun i hi => hi], ?_⟩⟩
        have S' : RelS q.T ι' G2 env' σ' := S'
        have cc := GCt.grow cc g2
        -- behind the test
        have next : ∀ (b : Bool) (μ2 : Store) (ι2 : List Addr) (G3 H3 : Hp), Grow ι' ι2 G2 G3 → RelH q.T ι2 G3 μ2 H3 →
            CtU q.T σ ι2 G3 (match (Res.ok b μ2 : Res Exn Bool) with
              | .ok true μ1' => match evE q.P q.call e env' μ1' with
                | .ok d μ2 => match bmS μ2 .append (.cell n0) [d] with
                  | .ok _ μ3 => lcL (evE q.P q.call c) (evE q.P q.call e) tg (stayB μ1 k ds xs) n0 (xs.drop (i + 1)) env0 μ3
                  | _ => .bad
                | _ => .bad
              | .ok false μ1' => lcL (evE q.P q.call c) (evE q.P q.call e) tg (stayB μ1 k ds xs) n0 (xs.drop (i + 1)) env0 μ1'
              | _ => .bad) (fun _ H => Qd H) →
            if b = true then tE q W0 e σ' H3 fun y H4 => ∃ acc, H4 p = some (.lst acc) ∧ acc.length < sizeLine ∧ (xs.length - (i + 1) = xs.length - (i + 1) ∧ i + 1 ≤ xs.length ∧ ∃ (ι' : List Addr) (G' : Hp) (μ' : Store), Grow (ι ++ [p]) ι' G G' ∧ RelH q.T ι' G' μ' (upd H4 p (.lst (acc ++ [y]))) ∧
              CtU q.T σ ι' G' (lcL (evE q.P q.call c) (evE q.P q.call e) tg (stayB μ1 k ds xs) n0 (xs.drop (i + 1)) env0 μ') (fun _ H => Qd H)) else (xs.length - (i + 1) = xs.length - (i + 1) ∧ i + 1 ≤ xs.length ∧ ∃ (ι' : List Addr) (G' : Hp) (μ' : Store), Grow (ι ++ [p]) ι' G G' ∧ RelH q.T ι' G' μ' H3 ∧
              CtU q.T σ ι' G' (lcL (evE q.P q.call c) (evE q.P q.call e) tg (stayB μ1 k ds xs) n0 (xs.drop (i + 1)) env0 μ') (fun _ H => Qd H)) := by
          intro b μ2 ι2 G3 H3 g3 R3 c3
          cases b with
          | false => exact ⟨rfl, hlt, ι2, G3, μ2, g.trans (g2.trans g3), R3, c3⟩
          | true =>
            refine ⟨env', μ2, ι2, G3, R3, S'.mono g3, ?_⟩
            simp only at c3
            cases ee : evE q.P q.call e env' μ2 with
            | bad => rw [ee] at c3; exact c3.elim
            | ex y μ3 => rw [ee] at c3; exact c3.elim
            | ok d2 μ3 =>
              rw [ee] at c3
              simp only at c3
              intro y ι4 G4 H4 g4 R4 ry
              cases hcell : μ3[n0]? with
              | none => simp only [bmS, hcell] at c3; exact c3.elim
              | some cl => cases cl with
                | lst ys =>
                  simp only [bmS, hcell] at c3
                  have hp4 : ι4[n0]? = some p := g4.ix _ _ (g3.ix _ _ (g2.ix _ _ (g.ix _ _ hpi)))
                  split at c3
                  · rename_i hz
                    split at hz
                    · rename_i hsz
                      cases hz
                      cases R4.cel n0 p _ hp4 hcell with
                      | lst h1 h2 h3 =>
                        refine ⟨_, h2, ?_, rfl, hlt, ι4, G4, _, g.trans (g2.trans (g3.trans g4)), R4.write hp4 hcell rfl (.lst h1 upd_same (h3.append (.cons ry .nil))), GCt.grow c3 g4⟩
                        have := flip_len hsz
                        rw [h3.length]
                        omega
                    · cases hz
                  · exact c3.elim
                | _ => simp only [bmS, hcell] at c3; exact c3.elim
        cases ifs with
        | nil =>
          have hi' : c = .lit (.bl true) := hi
          subst hi'
          exact next true μ' ι' G2 H' (Grow.refl _ _) R2 cc
        | cons f fs =>
          show tT q W0 c σ' H' _
          refine ⟨env', μ', ι', G2, R2, S', ?_⟩
          have cc' : CtU q.T σ ι' G2 (match bOf (evE q.P q.call c env' μ') with
              | .ok true μ1' => match evE q.P q.call e env' μ1' with
                | .ok d μ2 => match bmS μ2 .append (.cell n0) [d] with
                  | .ok _ μ3 => lcL (evE q.P q.call c) (evE q.P q.call e) tg (stayB μ1 k ds xs) n0 (xs.drop (i + 1)) env0 μ3
                  | _ => .bad
                | _ => .bad
              | .ok false μ1' => lcL (evE q.P q.call c) (evE q.P q.call e) tg (stayB μ1 k ds xs) n0 (xs.drop (i + 1)) env0 μ1'
              | _ => .bad) (fun _ H => Qd H) := cc
          cases hb : bOf (evE q.P q.call c env' μ') with
          | bad => rw [hb] at cc'; exact cc'.elim
          | ex y μ2 => rw [hb] at cc'; exact cc'.elim
          | ok b μ2 =>
            rw [hb] at cc'
            intro b' ι2 G3 H3 g3 R3 hb'
            have hb' : b' = b := hb'
            subst hb'
            exact next b' μ2 ι2 G3 H3 g3 R3 (GCt.grow cc' g3)
    · exact cc.elim
  · have e : i = xs.length := by omega
    subst e
    rw [List.drop_length] at cc
    unfold lcL at cc
    split at cc
    · rename_i hst
      unfold stayB at hst
      rw [Bool.and_eq_true, decide_eq_true_eq, beq_iff_eq] at hst
      exact .inl ⟨hJ.stop gJ R' hst.1 hst.2 (Nat.le_refl _), cc () ι' G' H (Grow.refl _ _) R' trivial⟩
    · exact cc.elim
/-! ### a way read while a dict is locked -/
section
variable {μ : Store} {w : Nat × Bool × List (D × D)} (hw : μ[w.1]? = some (.dic w.2.1 w.2.2))
include hw
theorem lk_get {j : Nat} : (lockC w μ)[j]? = μ[j]? ∨ (j = w.1 ∧ (lockC w μ)[j]? = some (.ldic w.2.1 w.2.2)) := by
  unfold lockC
  by_cases h : w.1 = j
  · subst h
    exact .inr ⟨rfl, List.getElem?_set_self (List.getElem?_eq_some_iff.mp hw).1⟩
  · exact .inl (List.getElem?_set_ne h)
theorem lk_lst (d : D) : lstOf (lockC w μ) d = lstOf μ d := by
  cases d with
  | cell j =>
    unfold lstOf
    rcases lk_get hw (j := j) with h | ⟨rfl, h⟩
    · simp only [h]
    · simp only [h, hw]
  | _ => rfl
theorem lk_dic (d : D) : dicOf (lockC w μ) d = dicOf μ d := by
  cases d with
  | cell j =>
    unfold dicOf
    rcases lk_get hw (j := j) with h | ⟨rfl, h⟩
    · simp only [h]
    · simp only [h, hw]
  | _ => rfl
theorem lk_ins (d : D) : insOf (lockC w μ) d = insOf μ d := by
  cases d with
  | cell j =>
    unfold insOf
    rcases lk_get hw (j := j) with h | ⟨rfl, h⟩
    · simp only [h]
    · simp only [h, hw]
  | _ => rfl
theorem lk_seq (d : D) : seqOf (lockC w μ) d = seqOf μ d := by
  cases d with
  | cell j => exact lk_lst hw (.cell j)
  | _ => rfl
theorem lk_ofO {α : Type} {o : Option α} {d : α} {μ1 : Store} (h : (ofO o μ : Res Exn α) = .ok d μ1) : μ1 = μ ∧ (ofO o (lockC w μ) : Res Exn α) = .ok d (lockC w μ) := by
  cases o with
  | none => cases h
  | some a => cases h; exact ⟨rfl, rfl⟩
theorem lk_fld {fok : List (List Nat)} {o : Option (Nat × List (Nat × D))} {f : Nat} {d : D} {μ1 : Store} (h : fldS fok μ o f = .ok d μ1) : μ1 = μ ∧ fldS fok (lockC w μ) o f = .ok d (lockC w μ) := by
  cases o with
  | none => cases h
  | some p =>
    obtain ⟨c, fs⟩ := p
    unfold fldS at h ⊢
    simp only at h ⊢
    split at h
    · rename_i hf
      rw [if_pos hf]
      exact lk_ofO hw h
    · cases h
theorem lk_ix {d e r : D} {μ1 : Store} (h : ixS μ d e = .ok r μ1) : μ1 = μ ∧ ixS (lockC w μ) d e = .ok r (lockC w μ) := by
  unfold ixS at h ⊢
  rw [lk_dic hw]
  cases hd : dicOf μ d with
  | some p =>
    rw [hd] at h
    simp only at h ⊢
    split at h
    · rename_i hk
      rw [if_pos hk]
      exact lk_ofO hw h
    · cases h
  | none =>
    rw [hd] at h
    cases e with
    | int i =>
      cases d with
      | str z =>
        simp only at h ⊢
        split at h
        · rename_i hk
          rw [if_pos hk]
          exact lk_ofO hw h
        · cases h
      | _ =>
        simp only [lk_seq hw] at h ⊢
        split at h
        · exact lk_ofO hw h
        · cases h
    | _ => cases h
theorem path_lock {P : Prog} {call : Nat → List D → Store → RD} {env : Env} : ∀ {c : CE}, pathE c = true → (∀ d μ1, evE P call c env μ = .ok d μ1 → μ1 = μ ∧ evE P call c env (lockC w μ) = .ok d (lockC w μ)) ∧ (∀ d μ1, evA P call c env μ = .ok d μ1 → μ1 = μ ∧ evA P call c env (lockC w μ) = .ok d (lockC w μ)) := by
  intro c
  induction c with
  | lit d => exact fun _ => ⟨fun d μ1 h => by cases h; exact ⟨rfl, rfl⟩, fun d μ1 h => by cases h⟩
  | var i => exact fun _ => ⟨fun d μ1 h => lk_ofO hw (o := getV env i) h, fun d μ1 h => by cases h⟩
  | glo i => exact fun _ => ⟨fun d μ1 h => lk_ofO hw (o := P.consts[i]?) h, fun d μ1 h => by cases h⟩
  | fld o f ih =>
    refine fun hp => ⟨fun d μ1 h => ?_, fun d μ1 h => by cases h⟩
    have hp : pathE o = true := hp
    have h : ((evE P call o env μ).bind fun d μ => fldS P.fok μ (insOf μ d) f) = .ok d μ1 := h
    show μ1 = μ ∧ ((evE P call o env (lockC w μ)).bind fun d μ => fldS P.fok μ (insOf μ d) f) = _
    cases e : evE P call o env μ with
    | bad => rw [e] at h; cases h
    | ex y m => rw [e] at h; cases h
    | ok d1 m =>
      obtain ⟨rfl, e2⟩ := (ih hp).1 _ _ e
      rw [e, Res.bind_ok] at h
      rw [e2, Res.bind_ok, lk_ins hw]
      exact lk_fld hw h
  | ix o i ih1 ih2 =>
    refine fun hp => ⟨fun d μ1 h => ?_, fun d μ1 h => by cases h⟩
    have hp : (pathE o && pathE i) = true := hp
    rw [Bool.and_eq_true] at hp
    have h : ((evE P call o env μ).bind fun d μ => (evE P call i env μ).bind fun e μ => ixS μ d e) = .ok d μ1 := h
    show μ1 = μ ∧ ((evE P call o env (lockC w μ)).bind fun d μ => (evE P call i env μ).bind fun e μ => ixS μ d e) = _
    cases e : evE P call o env μ with
    | bad => rw [e] at h; cases h
    | ex y m => rw [e] at h; cases h
    | ok d1 m =>
      obtain ⟨rfl, e2⟩ := (ih1 hp.1).1 _ _ e
      rw [e, Res.bind_ok] at h
      rw [e2, Res.bind_ok]
      cases e3 : evE P call i env m with
      | bad => rw [e3] at h; cases h
      | ex y m => rw [e3] at h; cases h
      | ok d2 m2 =>
        obtain ⟨rfl, e4⟩ := (ih2 hp.2).1 _ _ e3
        rw [e3, Res.bind_ok] at h
        rw [e4, Res.bind_ok]
        exact lk_ix hw h
  | anil => exact fun _ => ⟨fun d μ1 h => (by cases h), fun d μ1 h => by cases h; exact ⟨rfl, rfl⟩⟩
  | acons a r ih1 ih2 =>
    refine fun hp => ⟨fun d μ1 h => (by cases h), fun d μ1 h => ?_⟩
    have hp : (pathE a && pathE r) = true := hp
    rw [Bool.and_eq_true] at hp
    have h : ((evE P call a env μ).bind fun d μ => (evA P call r env μ).bind fun ds μ => .ok (d :: ds) μ) = .ok d μ1 := h
    show μ1 = μ ∧ ((evE P call a env (lockC w μ)).bind fun d μ => (evA P call r env μ).bind fun ds μ => .ok (d :: ds) μ) = _
    cases e : evE P call a env μ with
    | bad => rw [e] at h; cases h
    | ex y m => rw [e] at h; cases h
    | ok d1 m =>
      obtain ⟨rfl, e2⟩ := (ih1 hp.1).1 _ _ e
      rw [e, Res.bind_ok] at h
      rw [e2, Res.bind_ok]
      cases e3 : evA P call r env m with
      | bad => rw [e3] at h; cases h
      | ex y m => rw [e3] at h; cases h
      | ok d2 m2 =>
        obtain ⟨rfl, e4⟩ := (ih2 hp.2).2 _ _ e3
        rw [e3, Res.bind_ok] at h
        rw [e4, Res.bind_ok]
        cases h
        exact ⟨rfl, rfl⟩
  | _ => exact fun hp => by cases hp
end
theorem ofO_same {α : Type} {o : Option α} {d : α} {μ μ1 : Store} (h : (ofO o μ : Res Exn α) = .ok d μ1) : μ1 = μ := by
  cases o with
  | none => cases h
  | some a => cases h; rfl
theorem ix_same {d e r : D} {μ μ1 : Store} (h : ixS μ d e = .ok r μ1) : μ1 = μ := by
  unfold ixS at h
  split at h
  · split at h
    · exact ofO_same h
    · cases h
  · split at h
    · split at h
      · split at h
        · exact ofO_same h
        · cases h
      · split at h
        · exact ofO_same h
        · cases h
    · cases h
theorem path_same {P : Prog} {call : Nat → List D → Store → RD} {env : Env} : ∀ {c : CE}, pathE c = true → ∀ {μ : Store}, (∀ d μ1, evE P call c env μ = .ok d μ1 → μ1 = μ) ∧ (∀ d μ1, evA P call c env μ = .ok d μ1 → μ1 = μ) := by
  intro c
  induction c with
  | lit d => exact fun _ μ => ⟨fun d μ1 h => (by cases h; rfl), fun d μ1 h => (by cases h)⟩
  | var i => exact fun _ μ => ⟨fun d μ1 h => ofO_same (o := getV env i) h, fun d μ1 h => (by cases h)⟩
  | glo i => exact fun _ μ => ⟨fun d μ1 h => ofO_same (o := P.consts[i]?) h, fun d μ1 h => (by cases h)⟩
  | fld o f ih =>
    refine fun hp μ => ⟨fun d μ1 h => ?_, fun d μ1 h => (by cases h)⟩
    have hp : pathE o = true := hp
    have h : ((evE P call o env μ).bind fun d μ => fldS P.fok μ (insOf μ d) f) = .ok d μ1 := h
    cases e : evE P call o env μ with
    | bad => rw [e] at h; cases h
    | ex y m => rw [e] at h; cases h
    | ok d1 m =>
      obtain rfl := (ih hp).1 _ _ e
      rw [e, Res.bind_ok] at h
      unfold fldS at h
      split at h
      · split at h
        · exact ofO_same h
        · cases h
      · cases h
  | ix o i ih1 ih2 =>
    refine fun hp μ => ⟨fun d μ1 h => ?_, fun d μ1 h => (by cases h)⟩
    have hp : (pathE o && pathE i) = true := hp
    rw [Bool.and_eq_true] at hp
    have h : ((evE P call o env μ).bind fun d μ => (evE P call i env μ).bind fun e μ => ixS μ d e) = .ok d μ1 := h
    cases e : evE P call o env μ with
    | bad => rw [e] at h; cases h
    | ex y m => rw [e] at h; cases h
    | ok d1 m =>
      obtain rfl := (ih1 hp.1).1 _ _ e
      rw [e, Res.bind_ok] at h
      cases e3 : evE P call i env m with
      | bad => rw [e3] at h; cases h
      | ex y m => rw [e3] at h; cases h
      | ok d2 m2 =>
        obtain rfl := (ih2 hp.2).1 _ _ e3
        rw [e3, Res.bind_ok] at h
        exact ix_same h
  | anil => exact fun _ μ => ⟨fun d μ1 h => (by cases h), fun d μ1 h => (by cases h; rfl)⟩
  | acons a r ih1 ih2 =>
    refine fun hp μ => ⟨fun d μ1 h => (by cases h), fun d μ1 h => ?_⟩
    have hp : (pathE a && pathE r) = true := hp
    rw [Bool.and_eq_true] at hp
    have h : ((evE P call a env μ).bind fun d μ => (evA P call r env μ).bind fun ds μ => .ok (d :: ds) μ) = .ok d μ1 := h
    cases e : evE P call a env μ with
    | bad => rw [e] at h; cases h
    | ex y m => rw [e] at h; cases h
    | ok d1 m =>
      obtain rfl := (ih1 hp.1).1 _ _ e
      rw [e, Res.bind_ok] at h
      cases e3 : evA P call r env m with
      | bad => rw [e3] at h; cases h
      | ex y m => rw [e3] at h; cases h
      | ok d2 m2 =>
        obtain rfl := (ih2 hp.2).2 _ _ e3
        rw [e3, Res.bind_ok] at h
        cases h
        rfl
  | _ => exact fun hp => by cases hp
theorem walked_at {μ : Store} {k : ITK} {ds : List D} {w : Nat × Bool × List (D × D)} (h : walkedC μ k ds = some w) : ds = [.cell w.1] ∧ μ[w.1]? = some (.dic w.2.1 w.2.2) := by
  unfold walkedC at h
  split at h
  · split at h
    · cases h; exact ⟨rfl, by assumption⟩
    · cases h
  · split at h
    · cases h; exact ⟨rfl, by assumption⟩
    · cases h
  · cases h
theorem walked_lock {μ : Store} {k : ITK} {ds : List D} {w : Nat × Bool × List (D × D)} (h : walkedC μ k ds = some w) : walkedC (lockC w μ) k ds = none := by
  obtain ⟨rfl, hw⟩ := walked_at h
  have e : (lockC w μ)[w.1]? = some (.ldic w.2.1 w.2.2) := List.getElem?_set_self (List.getElem?_eq_some_iff.mp hw).1
  cases k <;> simp [walkedC, e]
/-- the comprehension in its rule's words -/
theorem lc_core' {k : ITK} {it c e : CE} {tg : TGT} {ifs : List Expr} {own : List Nat} {fz : Bool} {env : Env} {μ : Store} {σ : L2.St} {ι : List Addr} {G H : Hp} {Q : VK} (R : RelH q.T ι G μ H) (S : RelS q.T ι G env σ) (hi : ifB ifs c) (hg : tgIn own tg = true)
    (hc : match evA q.P q.call it env μ with
      | .ok ds μ1 => walkedC μ1 k ds = none ∧ Ct q.T W σ ι G (lcS (evE q.P q.call c) (evE q.P q.call e) tg own k ds fz env μ1) Q
      | .ex y μ1 => Ct q.T W σ ι G (.ex y μ1) Q
      | .bad => False) : tLc (tI q W k it) (tG q.T tg) (tIf q ifs c) (tE q W0 e) own σ H Q := by
  refine ⟨env, μ, ι, G, R, S, ?_⟩
  cases ea : evA q.P q.call it env μ with
  | bad => rw [ea] at hc; exact hc
  | ex y μ1 => rw [ea] at hc; exact hc
  | ok ds μ1 =>
    rw [ea] at hc
    obtain ⟨hw, hc⟩ := hc
    unfold lcS at hc
    cases hx : itemsOf μ1 k ds with
    | none => rw [hx] at hc; exact hc.elim
    | some xs =>
      rw [hx] at hc
      simp only at hc
      refine ⟨xs, hx, hw, fun ι1 G1 H1 J g1 R1 hJ p hp => ?_⟩
      have hpi : (ι1 ++ [p])[μ1.length]? = some p := by rw [← R1.len]; simp
      have gcell := Grow.cell ι1 G1 p
      refine lc_turns (Qd := Q (.ref p)) R1 ((S.mono g1).wipe2 own) hx hJ hp hi hg rfl ?_
      cases hl : lcL (evE q.P q.call c) (evE q.P q.call e) tg (stayB μ1 k ds xs) μ1.length xs (wipeE env own) (μ1 ++ [.lst []]) with
      | bad => rw [hl] at hc; exact hc
      | ex y μ2 => rw [hl] at hc; exact hc.elim
      | ok u μ2 =>
        rw [hl] at hc
        simp only at hc
        intro _ ι2 G2 H2 g2 R2 _
        have hp2 : ι2[μ1.length]? = some p := g2.ix _ _ hpi
        have gg := g1.trans (gcell.trans g2)
        cases fz with
        | false => exact hc (.ref p) ι2 G2 H2 gg R2 (.cell hp2)
        | true =>
          simp only [if_true] at hc
          cases ht : thaw μ1.length μ2 with
          | none => rw [ht] at hc; exact hc.elim
          | some z =>
            obtain ⟨d2, μ3⟩ := z
            rw [ht] at hc
            simp only at hc
            obtain ⟨G3, g3, R3, r3⟩ := R2.thaw ht
            have hc' := leave_ct R1 (GCt.grow hc g1)
            exact hc' (.ref p) ι2 G3 H2 ((gcell.trans g2).trans g3) R3 (r3 _ hp2)
/-- a comprehension: with no lock, or within one -/
theorem lc_dyn {k : ITK} {it c e : CE} {tg : TGT} {ifs : List Expr} {own : List Nat} {fz : Bool} {env : Env} {μ : Store} {σ : L2.St} {ι : List Addr} {G H : Hp} {Q : VK} (R : RelH q.T ι G μ H) (S : RelS q.T ι G env σ) (hi : ifB ifs c) (hg : tgIn own tg = true)
    (hc : Ct q.T W σ ι G (evE q.P q.call (.lc fz k it tg c e own) env μ) Q) :
    tLc (tI q W k it) (tG q.T tg) (tIf q ifs c) (tE q W0 e) own σ H Q ∨ tLockE (tLc (tI q W k it) (tG q.T tg) (tIf q ifs c) (tE q W0 e) own) σ H Q := by
  have c' : Ct q.T W σ ι G ((evA q.P q.call it env μ).bind fun ds μ => match walkedC μ k ds with
    | none => lcS (evE q.P q.call c) (evE q.P q.call e) tg own k ds fz env μ
    | some w => if pathE it then unlkE w (lcS (evE q.P q.call c) (evE q.P q.call e) tg own k ds fz env (lockC w μ)) else .bad) Q := hc
  cases ea : evA q.P q.call it env μ with
  | bad => rw [ea] at c'; exact c'.elim
  | ex y μ1 =>
    rw [ea] at c'
    exact .inl (lc_core' (fz := fz) R S hi hg (by rw [ea]; exact c'))
  | ok ds μ1 =>
    rw [ea, Res.bind_ok] at c'
    cases hw : walkedC μ1 k ds with
    | none =>
      rw [hw] at c'
      exact .inl (lc_core' (fz := fz) R S hi hg (by rw [ea]; exact ⟨hw, c'⟩))
    | some w =>
      rw [hw] at c'
      simp only at c'
      split at c'
      · rename_i hp
        obtain ⟨rfl, hd⟩ := walked_at hw
        obtain rfl := (path_same hp).2 _ _ ea
        have hl := ((path_lock hd hp).2 _ _ ea).2
        obtain ⟨a, ha⟩ := R.addr hd
        obtain ⟨u, hu, mu, hn, lk⟩ := R.lock hd ha
        refine .inr ⟨a, u, hu, mu, fun od => ?_⟩
        obtain ⟨gl, Rl⟩ := lk od
        refine lc_core' (fz := fz) Rl (S.mono gl) hi hg ?_
        have hl' : evA q.P q.call it env (lockC w μ1) = .ok [.cell w.1] (lockC w μ1) := hl
        have : (μ1.set w.1 (.ldic w.2.1 w.2.2)) = lockC w μ1 := rfl
        rw [this, hl']
        refine ⟨walked_lock hw, ?_⟩
        cases hr : lcS (evE q.P q.call c) (evE q.P q.call e) tg own k [.cell w.1] fz env (lockC w μ1) with
        | bad => rw [hr] at c'; exact c'
        | ex y μ2 => rw [hr] at c'; exact c'.elim
        | ok d μ2 =>
          rw [hr] at c'
          intro v ι2 G2 H2 g2 R2 rv
          obtain ⟨h1, h2, h3⟩ := R.unlock hd ha hu g2 R2
          exact ⟨h1, c' v ι2 _ _ h2 h3 (rv.outk (g2.ex _ _ upd_same))⟩
      · exact c'.elim
end Co

set_option linter.all false
set_option maxRecDepth 100000
set_option Elab.async false
/-! Co19: comprehensions as expressions; what every expression is. -/
namespace Co
open PySem L2
variable {q : Cq} {sc : Scope} {N : List Str} {W : WX} {X : Cx}
theorem pts_if {X' : Cx} {ifs : List Expr} {c : CE} (hi : ifB ifs c) (h : ∀ e ∈ ifs, PT X' e (tT q W0 c)) : PTs X' ifs (tIf q ifs c) := by
  cases ifs with
  | nil => exact pts_nil
  | cons e r => cases r with
    | nil => exact pts_one (h e List.mem_cons_self)
    | cons _ _ => exact hi.elim
/-- what a comprehension's parts are -/
structure LcOk (q : Cq) (sc : Scope) (N : List Str) (W : WX) (X : Cx) (k : ITK) (it : CE) (tg : TGT) (c e : CE) (elt tge iter : Expr) (ifs : List Expr) (scope : Scope) (own : List (Str × Nat)) : Prop where
  hi : ifB ifs c
  hg : tgIn (own.map (·.2)) tg = true
  hb : blkC N sc scope own = true
  it : PI X tge iter (tI q W k it)
  pl : plE iter = true
  hG : okG N (relS scope sc) false tg tge = true
  hT : ∀ X', XOk q.nomk (relS scope sc) N W0 X' → ∀ f ∈ ifs, PT X' f (tT q W0 c)
  hE : ∀ X', XOk q.nomk (relS scope sc) N W0 X' → PE X' elt (tE q W0 e)
theorem LcOk.pe (x : XOk q sc N W X) {k : ITK} {it c e : CE} {tg : TGT} {elt tge iter : Expr} {ifs : List Expr} {scope : Scope} {own : List (Str × Nat)} {pos : Pos} (l : LcOk q sc N W X k it tg c e elt tge iter ifs scope own) :
    PE X (.ListComp elt [⟨tge, iter, ifs, 0⟩] scope pos) (tLc (tI q W k it) (tG q.T tg) (tIf q ifs c) (tE q W0 e) (own.map (·.2))) :=
  pe_lc x.calm (by rw [x.eN]; exact x.nd) l.it (by rw [x.eN, x.eS]; exact blkOk_by l.hb) (fun s H C cl fp => pg_ok (x.blkG s H scope C cl fp) l.hG) (fun s H C cl fp => pts_if l.hi fun f hf => l.hT _ (x.blk s H scope C cl fp) f hf) (fun s H C cl fp => l.hE _ (x.blk s H scope C cl fp)) (pl_fold l.pl X.env)
theorem se_lc (x : XOk q sc N W X) {k : ITK} {fz : Bool} {it c e : CE} {tg : TGT} {elt tge iter : Expr} {ifs : List Expr} {scope : Scope} {own : List (Str × Nat)} {pos : Pos} (l : LcOk q sc N W X k it tg c e elt tge iter ifs scope own) :
    PE X (.ListComp elt [⟨tge, iter, ifs, 0⟩] scope pos) (tE q W (.lc fz k it tg c e (own.map (·.2)))) :=
  PE.dyn fun σ H Q ⟨env, μ, ι, G, R, S, hc⟩ => by
    rcases lc_dyn R S l.hi l.hg hc with h | h
    · exact ⟨_, l.pe x, h⟩
    · exact ⟨_, pe_lock (l.pe x), h⟩
theorem st_setLc (x : XOk q sc N W X) {k : ITK} {fz : Bool} {it c e : CE} {tg : TGT} {elt tge iter : Expr} {ifs : List Expr} {scope : Scope} {own : List (Str × Nat)} {pos py spos : Pos} {i : Nat} {y : Str} (l : LcOk q sc N W X k it tg c e elt tge iter ifs scope own)
    (hN : N[i]? = some y) (hy : sc.names.lookup y = some .local) (hsw : swapsWith (.ListComp elt [⟨tge, iter, ifs, 0⟩] scope pos) (some (.Name y py)) spos.line X.env = pure true) :
    PS X (.Assign [.Name y py] (.ListComp elt [⟨tge, iter, ifs, 0⟩] scope pos) spos) (tAsg (tLc (tI q W k it) (tG q.T tg) (tIf q ifs c) (tE q W0 e) (own.map (·.2))) (gName i)) :=
  ps_setLc x.calm (by rw [x.eN]; exact x.nd) (by rw [x.eN]; exact hN) (by rw [x.eS]; exact hy) hsw l.it (by rw [x.eN, x.eS]; exact blkOk_by l.hb) (fun s H C cl fp => pg_ok (x.blkG s H scope C cl fp) l.hG) (fun s H C cl fp => pts_if l.hi fun f hf => l.hT _ (x.blk s H scope C cl fp) f hf) (fun s H C cl fp => l.hE _ (x.blk s H scope C cl fp)) (pl_fold l.pl X.env)
end Co

set_option linter.all false
set_option maxRecDepth 100000
set_option Elab.async false
/-! Cl10: the checks of a lambda's node; a def called with a new closure. -/
namespace Co
open PySem L2
def sameL {α : Type} (f : α → α → Bool) : List α → List α → Bool
  | [], [] => true
  | a :: r, b :: s => f a b && sameL f r s
  | _, _ => false
theorem sameL_ok {α : Type} {f : α → α → Bool} (h : ∀ a b, f a b = true → a = b) : ∀ l m : List α, sameL f l m = true → l = m
  | [], [], _ => rfl
  | [], _ :: _, e => by cases e
  | _ :: _, [], e => by cases e
  | a :: r, b :: s, e => by
    have e' : (f a b && sameL f r s) = true := e
    rw [Bool.and_eq_true] at e'
    rw [h _ _ e'.1, sameL_ok h r s e'.2]
/-- two texts are the same (names, fields, subscripts, calls) -/
def sameE : Nat → Expr → Expr → Bool
  | 0, _, _ => false
  | n + 1, a, b => match a, b with
    | .Name x p, .Name y q => decide (x = y ∧ p = q)
    | .Attribute e m p, .Attribute f k q => sameE n e f && decide (m = k ∧ p = q)
    | .Subscript e i p, .Subscript f j q => sameE n e f && sameE n i j && decide (p = q)
    | .Call f as [] p, .Call g bs [] q => sameE n f g && sameL (sameE n) as bs && decide (p = q)
    | _, _ => false
theorem sameE_ok : ∀ n a b, sameE n a b = true → a = b := by
  intro n
  induction n with
  | zero => intro a b h; cases h
  | succ n ih =>
    intro a b h
    unfold sameE at h
    split at h
    · obtain ⟨rfl, rfl⟩ := of_decide_eq_true h; rfl
    · rw [Bool.and_eq_true] at h
      obtain ⟨rfl, rfl⟩ := of_decide_eq_true h.2
      rw [ih _ _ h.1]
    · rw [Bool.and_eq_true, Bool.and_eq_true] at h
      obtain rfl := of_decide_eq_true h.2
      rw [ih _ _ h.1.1, ih _ _ h.1.2]
    · rw [Bool.and_eq_true, Bool.and_eq_true] at h
      obtain rfl := of_decide_eq_true h.2
      rw [ih _ _ h.1.1, sameL_ok ih _ _ h.1.2]
    · cases h
/-- one parameter, no default -/
def oneP : Arguments → Option (Str × Pos)
  | ⟨[], [⟨x, none, p⟩], none, [], [], none, []⟩ => some (x, p)
  | _ => none
theorem oneP_ok {a : Arguments} {x : Str} {p : Pos} (h : oneP a = some (x, p)) : a = ⟨[], [⟨x, none, p⟩], none, [], [], none, []⟩ := by
  unfold oneP at h
  split at h
  · cases h; rfl
  · cases h
def sameP (a b : Arguments) : Bool := match oneP a, oneP b with
  | some x, some y => decide (x = y)
  | _, _ => false
theorem sameP_ok {a b : Arguments} (h : sameP a b = true) : a = b ∧ ∃ x, oneP a = some x := by
  unfold sameP at h
  split at h
  · rename_i x y e1 e2
    have := of_decide_eq_true h
    subst this
    obtain ⟨s, p⟩ := x
    exact ⟨(oneP_ok e1).trans (oneP_ok e2).symm, (s, p), e1⟩
  · cases h
theorem oneP_def {a : Arguments} {x : Str × Pos} (h : oneP a = some x) (env : PySem.Env) : defaultsOf a env = ([], []) := by
  obtain ⟨s, p⟩ := x
  rw [oneP_ok h]
  rfl
def slotB (N : List Str) (sc : Scope) : List Nat → List Str → Bool
  | [], [] => true
  | j :: js, y :: ys => decide (N[j]? = some y) && decide (sc.names.lookup y = some .cell) && slotB N sc js ys
  | _, _ => false
theorem slotB_ok {N : List Str} {sc : Scope} : ∀ {js : List Nat} {ys : List Str}, slotB N sc js ys = true → SlotN N sc js ys
  | [], [], _ => .nil
  | [], _ :: _, e => by cases e
  | _ :: _, [], e => by cases e
  | j :: js, y :: ys, e => by
    have e' : (decide (N[j]? = some y) && decide (sc.names.lookup y = some .cell) && slotB N sc js ys) = true := e
    rw [Bool.and_eq_true, Bool.and_eq_true, decide_eq_true_eq, decide_eq_true_eq] at e'
    exact .cons e'.1.1 e'.1.2 (slotB_ok e'.2)
/-- the node is the lambda lf's -/
def lamC (q : Cq) (N : List Str) (sc : Scope) (lf : Nat) (caps : List Nat) (ps : Arguments) (bd : Expr) (lsc : Scope) : Bool := match q.lm, q.T.lam lf with
  | some ql, some L => decide (L.qual = ql) && sameP L.ps ps && sameE 20 L.body bd && decide (L.sc = lsc) && decide (L.cap = frees lsc.names []) && decide (frees lsc.names []).Nodup && slotB N sc caps (frees lsc.names [])
  | _, _ => false
theorem lamC_ok {q : Cq} {N : List Str} {sc : Scope} {lf : Nat} {caps : List Nat} {ps : Arguments} {bd : Expr} {lsc : Scope} (h : lamC q N sc lf caps ps bd lsc = true) :
    ∃ ql L, q.lm = some ql ∧ q.T.lam lf = some L ∧ L = ⟨ql, ps, bd, lsc, frees lsc.names []⟩ ∧ (frees lsc.names []).Nodup ∧ (∀ env, defaultsOf ps env = ([], [])) ∧ SlotN N sc caps (frees lsc.names []) := by
  unfold lamC at h
  split at h
  · rename_i ql L e1 e2
    simp only [Bool.and_eq_true, decide_eq_true_eq] at h
    obtain ⟨⟨⟨⟨⟨⟨h1, h2⟩, h3⟩, h4⟩, h5⟩, h6⟩, h7⟩ := h
    obtain ⟨h2, x, hx⟩ := sameP_ok h2
    have h3 := sameE_ok _ _ _ h3
    obtain ⟨a, b, c, d, e⟩ := L
    simp only at h1 h2 h3 h4 h5 hx
    subst h1 h2 h3 h4 h5
    exact ⟨_, _, e1, e2, rfl, h6, oneP_def hx, slotB_ok h7⟩
  · cases h
section
variable {q : Cq} {sc : Scope} {N : List Str} {W : WX} {X : Cx}
theorem dflN (q : Cq) (f : Nat) : dflB q f [] = true := by
  unfold dflB
  simp
theorem se_mlamC {o : CE} {e bd : Expr} {m lf : Nat} {caps : List Nat} {ps : Arguments} {lsc : Scope} {lpos apos pos : Pos} (x : XOk q sc N W X) (hc : lamC q N sc lf caps ps bd lsc = true) (h : PE X e (tE q W o)) (hs : noSup e = true) (hl : (apos.endLine == pos.line) = true) :
    PE X (.Call (.Attribute e (mN q m) apos) [.Lambda ps bd lsc lpos] [] pos) (tE q W (.mlam o m lf caps)) := by
  obtain ⟨ql, L, h1, h2, h3, h4, h5, h6⟩ := lamC_ok hc
  exact se_mlam x h1 h2 h3 h4 (h5 _) h6 (dflN q) h hs hl
theorem se_dlam {a : CE} {e bd : Expr} {g lf : Nat} {caps : List Nat} {ps : Arguments} {lsc : Scope} {y : Str} {p lpos pos : Pos} (x : XOk q sc N W X) (hc : lamC q N sc lf caps ps bd lsc = true) (hg : glB sc y = true) (hdb : dbgB y = false) (hl : q.tx.fnm.lookup y = some g) (h : PE X e (tE q W a)) (hp : plE e = true) :
    PE X (.Call (.Name y p) [e, .Lambda ps bd lsc lpos] [] pos) (tE q W (.dlam g a lf caps)) := by
  obtain ⟨ql, L, hq, hL, eL, hnd, hdef, hsl⟩ := lamC_ok hc
  obtain ⟨hfn, hst, hfr, qu, k, tp, hk, tb, hm, hu⟩ := x.lmk ql hq
  subst qu
  refine ⟨fun pins s σ H Q I ⟨env, μ, ι, G, R, S, c⟩ => ?_⟩
  have c' : Ct q.T W σ ι G ((evE q.P q.call a env μ).bind fun d μ => match caps.mapM (getV env) with
    | some cs => lamS q.call g d lf cs μ
    | none => .bad) Q := c
  have h0 : tE q W a σ H (fun v H' => ∃ (ι' : List Addr) (G' : Hp) (μ' : Store) (d : D) (ds : List D), RelH q.T ι' G' μ' H' ∧ RelS q.T ι' G' env σ ∧ RepD q.T ι' G' v d ∧ caps.mapM (getV env) = some ds ∧ Ct q.T W σ ι' G' (lamS q.call g d lf ds μ') Q) := by
    refine ⟨env, μ, ι, G, R, S, GCt.bind c' fun d μ1 v ι1 G1 H1 _ gr r rv c1 => ?_⟩
    cases hd : caps.mapM (getV env) with
    | none => rw [hd] at c1; exact c1.elim
    | some ds =>
      rw [hd] at c1
      exact ⟨ι1, G1, μ1, d, ds, r, S.mono gr, rv, rfl, c1⟩
  refine wpAny_Call_Name_kw (ld_glob I (x.gl hg) (x.lk.fn y g hl) ?_ (dbg1 hdb))
  refine PySem.W.callWith_K (first := []) (h₀ := X.base) I.ok.mod.kin (by rw [x.eK]; exact x.lk.kp y g hl) ?_ (pl_star hp _ _) (pl_any (es := [.Lambda ps bd lsc lpos]) rfl)
  rw [pl_star hp]
  show wpAny _ _ (spliced ((false, eval e X.env) :: [(false, eval (.Lambda ps bd lsc lpos) X.env)])) _ _ s
  refine PySem.Calls.spliced_cons (thn (h.run pins s σ H _ I h0) fun u s1 ⟨v, H1, I1, rx, ι1, G1, μ1, d, ds, R1, S1, rv, hds, c1⟩ => ?_)
  have hfree : ∀ y ∈ lsc.names, y.2 = .free → ∃ c, X.env.cells.lookup y.1 = some c := fun y hy e => I1.ok.has _ (.inl (by
    show X.env.scope.names.lookup y.1 = some .cell
    rw [x.eS]
    exact hsl.kind _ (frees_mem (by rw [← e]; exact hy))))
  have hcs : ∀ z ∈ cloFrom X.env.cells lsc.names [], X.env.cells.lookup z.1 = some z.2 := fun ⟨y, c⟩ hz => by
    rcases cloFrom_mem hz with z | ⟨z1, z2⟩
    · cases z
    · obtain ⟨c2, hc2⟩ := hfree _ z1 rfl
      have hc2 : X.env.cells.lookup y = some c2 := hc2
      show X.env.cells.lookup y = some c
      rw [z2, hc2]
      rfl
  have hkeys : (cloFrom X.env.cells lsc.names []).map (·.1) = frees lsc.names [] := by
    rw [clo_keys]
    rfl
  refine PySem.Calls.spliced_cons (lam_new I1 tb hk hm hu R1.tb.tab (hdef _) hfree fun fo c' pm ctv H2 s2 I2 hH hT hf nf nfr new hc => PySem.Calls.spliced_nil ?_)
  refine ⟨I2.kIn, ?_⟩
  have nb : q.call g [d, .cell μ1.length] (μ1 ++ [.clo lf ds]) ≠ .bad := fun z => by
    unfold lamS at c1
    rw [z] at c1
    exact c1
  obtain ⟨fd, pn, F, B, kp⟩ := (x.fns g (x.lk.nlf y g hl) ⟨_, _, nb⟩).ex
  obtain ⟨dsv, hv, hb⟩ := B [] (dflN q g)
  cases hv
  obtain ⟨vs, sl, rl⟩ := slots_of x.eN x.eS S1 hsl hds
  obtain ⟨cf, cb⟩ := caps_of I2 hfn hst hfr hcs (by rw [hkeys]; exact sl)
  have nd := caps_nd I2 hcs (by rw [hkeys]; exact hnd)
  have bf : X.base.get? fo = none := by
    cases e : X.base.get? fo with
    | none => rfl
    | some o =>
      have := I1.bk fo o e
      rw [new] at this
      cases this
  subst eL
  exact mlam_call (L := ⟨X.env.qual ++ "<lambda>", ps, bd, lsc, frees lsc.names []⟩) (cs := cloFrom X.env.cells lsc.names []) (pm := pm) (c := c') (ctv := ctv) I2 (x.room.mono (Nat.le_succ _)) F hb (R1.tabs hm hH hT) hf nf nfr bf hc hL hkeys nd cf cb rl rv rx c1
end
end Co

set_option linter.all false
set_option maxRecDepth 100000
set_option Elab.async false
/-! Co20: what is checked of an expression; every expression that passes is told by the evaluator. -/
namespace Co
open PySem L2
variable {q : Cq} {sc : Scope} {N : List Str} {W : WX} {X : Cx}
theorem se_call (x : XOk q sc N W X) {f : Nat} {as : CE} {dv : List D} {es : List Expr} {y : Str} {p pos : Pos} (hg : glB sc y = true) (hdb : dbgB y = false) (hl : q.tx.fnm.lookup y = some f) (hd : dflB q f dv = true) (A : Args X q W as es) :
    PE X (.Call (.Name y p) es [] pos) (tE q W (.call f as dv)) :=
  ⟨fun pins s σ H Q I ⟨env, μ, ι, G, R, S, c⟩ => call_args x hg hdb A.pl A.nl' A.pa (by rw [x.eK]; exact x.lk.kp y f hl) (x.lk.fn y f hl) (fun pins σ H s Q us vs ds ι G μ I r R rl c => run_fnW x (x.lk.nlf y f hl) hd I r R rl c) I R S (F := fun ds μ => q.call f (ds ++ dv) μ) c⟩
theorem se_make (x : XOk q sc N W X) {cl : Nat} {fz : Bool} {as : CE} {dv : List D} {es : List Expr} {y : Str} {p pos : Pos} (hg : glB sc y = true) (hdb : dbgB y = false) (hl : q.tx.cnm.lookup y = some cl) (hd : ∀ f, q.P.init.getD cl none = some f → dflB q f dv = true) (A : Args X q W as es) :
    PE X (.Call (.Name y p) es [] pos) (tE q W (.make cl fz as dv)) :=
  ⟨fun pins s σ H Q I ⟨env, μ, ι, G, R, S, c⟩ => call_args x hg hdb A.pl A.nl' A.pa (by rw [x.eK]; exact x.lk.kpc y cl hl) (x.lk.cls y cl hl) (fun pins σ H s Q us vs ds ι G μ I r R rl c => run_makeW x hd I r R rl c) I R S (F := fun ds μ => makeS q.P q.call cl fz (ds ++ dv) μ) c⟩
theorem se_sup (x : XOk q sc N W X) {c f : Nat} {as : CE} {es : List Expr} {y : Str} {p apos pos : Pos} (hg : glB sc y = true) (hdb : dbgB y = false) (hl : q.tx.cnm.lookup y = some c) (hi : q.P.init.getD c none = some f) (A : Args X q W as es) (ne : es ≠ []) (hf : es.length < 30) (hline : (apos.endLine == pos.line) = true) :
    PE X (.Call (.Attribute (.Name y p) "__init__" apos) es [] pos) (tE q W (.sup f as)) := by
  refine ⟨fun pins s σ H Q I ⟨env, μ, ι, G, R, S, cc⟩ => ?_⟩
  have c' : Ct q.T W σ ι G ((evA q.P q.call as env μ).bind fun ds μ => q.call f ds μ) Q := cc
  obtain ⟨r1, r2, r3, r4⟩ := x.lk.rdi c f hi
  have hn : PE X (.Name y p) (fun σ H Q => Q (.ref (q.T.cA c)) H) := pe_glob (x.gl hg) (x.lk.cls y c hl) rfl (dbg1 hdb)
  refine PySem.W.methodCall_KW (thn (hn.run pins s σ H (fun v H' => v = .ref (q.T.cA c) ∧ H' = H) I ⟨rfl, rfl⟩) fun u s1 ⟨v, H1, I1, rx, ev, eh⟩ => ?_) (meth_eval rfl A.pl hf hline)
  subst ev
  subst eh
  obtain rfl : u = Value.ref (q.T.cA c) := rx
  have rd : ClX.CRead X.K (q.T.cA c) (.type "type") := by rw [x.eK]; exact ⟨r1, r2⟩
  have cv : ClX.CVal X.K (q.T.cA c) (.type "type") "__init__" (.ref (q.fA f)) (.ref (q.fA f)) := by rw [x.eK]; exact ⟨r3, rfl⟩
  refine PySem.W.method_cls I1.kIn rd.ga (ClX.getcval_ok I1 rd cv fun s2 I2 => ?_)
  have hA : tA q W as σ H1 (fun vs H' => ∃ (ι' : List Addr) (G' : Hp) (μ' : Store) (ds : List D), RelH q.T ι' G' μ' H' ∧ RepL q.T ι' G' vs ds ∧ Ct q.T W σ ι' G' (q.call f ds μ') Q) :=
    ⟨env, μ, ι, G, R, S, GCt.bind c' fun ds μ1 vs ι1 G1 H1 _ g r d c1 => ⟨ι1, G1, μ1, ds, r, d, c1⟩⟩
  have hp := A.pl
  cases es with
  | nil => exact absurd rfl ne
  | cons e es =>
    rw [List.all_cons, Bool.and_eq_true] at hp
    refine PySem.W.callWith_K (first := []) (h₀ := X.base) I.ok.mod.kin (by rw [x.eK]; exact r4) (thn (A.pa.run pos pins s2 σ H1 _ I2 hA) fun us s3 ⟨vs, H2, I3, r, ι2, G2, μ2, ds, R2, rl, c2⟩ => ⟨I3.kIn, ?_⟩) (pl_star hp.1 es _) (pl_any hp.2)
    exact run_fnW (dv := []) x (x.lk.nli c f hi) (by unfold dflB; simp) I3 r R2 rl (by rw [List.append_nil]; exact c2)
/-! ### (not) in range(n) -/
theorem in_rng {prog : Program} {w : World} {A : Around} {E : Value → Shared → Prop} {s : Shared} {r : Addr} {a b i : Int} {t u v k : Tok} {Q : Value → Shared → Prop} (hr : IsRange s.heap r a b 1 t u v) (neg : Bool) (h : Q (.bool (if neg then !decide (a ≤ i ∧ i < b) else decide (a ≤ i ∧ i < b))) s) :
    wpAny (model prog w) A (compareOp (if neg then .NotIn else .In) (.int i k) (.ref r)) Q E s := by
  have hT : s.TypeIs (.ref r) "range" := ⟨_, hr, rfl⟩
  have core : ∀ Q' : Value → Shared → Prop, Q' (.bool (decide (a ≤ i ∧ i < b))) s → wpAny (model prog w) A (call (.builtin "range.__contains__") [.ref r, .int i k]) Q' E s := fun Q' hq => by
    refine wpAny_call_entry F.slot_range_contains hT F.entry_range_contains ?_ (F.args_range_contains_2 _ _)
    unfold Builtin.«range.__contains__»
    refine wpAny_bind (wpAny_of_eq (a := (Value.ref r, [Value.int i k])) rfl ?_)
    dsimp only [Builtin.Range.rangeExactInt?]
    refine wpAny_bind (wpAny_rule ?_)
    refine wpAny_bind (wpAny_rangeFields hr ?_)
    have e : (Builtin.Range.rangePlace? a b 1 i).isSome = decide (a ≤ i ∧ i < b) := by
      unfold Builtin.Range.rangePlace?
      simp only [show (1 : Int) > 0 from by decide, if_true, Int.emod_one, beq_self_eq_true, Bool.and_true]
      by_cases h1 : a ≤ i <;> by_cases h2 : i < b <;> simp [h1, h2]
    dsimp only
    rw [e]
    exact wpAny_pure ⟨_, rfl, hq⟩
  cases neg with
  | false =>
    show wpAny _ _ (do return .bool (← contains (.ref r) (.int i k))) Q E s
    exact wpAny_bind (wpAny_contains_slot hT F.slot_range_contains (core _ (wpAny_pure (wpAny_pure h))))
  | true =>
    show wpAny _ _ (do return .bool (!(← contains (.ref r) (.int i k)))) Q E s
    exact wpAny_bind (wpAny_contains_slot hT F.slot_range_contains (core _ (wpAny_pure (wpAny_pure h))))
theorem pc_rng {neg : Bool} {a e : Expr} {ta : TE} {tr : L2.St → Hp → (Int → Int → Hp → Prop) → Prop} (ha : PE X a ta) (he : PRg X e tr) : PC X (if neg then .NotIn else .In) a e (fun σ H Q => ta σ H fun x H1 => tr σ H1 fun lo hi H2 => ∃ i, x = .int i ∧ Q (.bl (if neg then !decide (lo ≤ i ∧ i < hi) else decide (lo ≤ i ∧ i < hi))) H2) := by
  refine ⟨fun pins s σ H Q I h => ?_⟩
  refine thn (ha.run pins s σ H _ I h) fun iv s1 ⟨x, H1, I1, rx, q1⟩ => thn (he pins s1 σ H1 _ I1 q1) fun u s2 ⟨r, lo, hi, t1, t2, t3, H2, eu, hr, I2, i, ex, q2⟩ => ?_
  subst ex
  subst eu
  obtain ⟨t, rfl⟩ := rx
  exact in_rng hr neg ⟨.bl _, H2, I2, rfl, q2⟩
theorem inr_core {neg : Bool} {a n : CE} {σ : L2.St} {H : Hp} {Q : VK} {env : Env} {μ : Store} {ι : List Addr} {G : Hp} (R : RelH q.T ι G μ H) (S : RelS q.T ι G env σ) (c : Ct q.T W σ ι G (evE q.P q.call (.inr neg a n) env μ) Q) :
    tE q W a σ H fun x H1 => tRg1 (tE q W n) σ H1 fun lo hi H2 => ∃ i, x = .int i ∧ Q (.bl (if neg then !decide (lo ≤ i ∧ i < hi) else decide (lo ≤ i ∧ i < hi))) H2 := by
  have c' : Ct q.T W σ ι G ((evE q.P q.call a env μ).bind fun d μ => (evE q.P q.call n env μ).bind fun e μ => inrS neg d e μ) Q := c
  refine ⟨env, μ, ι, G, R, S, GCt.bind c' fun d μ1 v ι1 G1 H1 _ g r rv c1 => ⟨env, μ1, ι1, G1, r, S.mono g, GCt.bind c1 fun e μ2 y ι2 G2 H2 _ g2 r2 ry c2 => ?_⟩⟩
  cases rv with
  | int i => cases ry with
    | int j => exact ⟨j, rfl, i, rfl, ct_val c2 r2 (.bl _)⟩
    | _ => exact c2.elim
  | _ => cases ry <;> exact c2.elim
theorem se_inr {neg : Bool} {a n : CE} {e f : Expr} {p p2 pos : Pos} (x : XOk q sc N W X) (hg : glB sc "range" = true) (ha : PE X e (tE q W a)) (hn : PE X f (tE q W n)) (hp : plE f = true) :
    PE X (.Compare e [if neg then .NotIn else .In] [.Call (.Name "range" p) [f] [] p2] pos) (tE q W (.inr neg a n)) :=
  PE.dyn fun σ H Q ⟨env, μ, ι, G, R, S, c⟩ => ⟨_, pe_cmp (pc_rng ha (prg_1 (x.gl hg) (x.lk.blt "range" (by decide)) hn (pl_star hp [] _))) (by cases neg <;> rfl), inr_core R S c⟩
theorem st_inr {neg : Bool} {a n : CE} {e f : Expr} {p p2 pos : Pos} (x : XOk q sc N W X) (hg : glB sc "range" = true) (ha : PE X e (tE q W a)) (hn : PE X f (tE q W n)) (hp : plE f = true) :
    PT X (.Compare e [if neg then .NotIn else .In] [.Call (.Name "range" p) [f] [] p2] pos) (tT q W (.inr neg a n)) := by
  refine PT.dyn fun σ H Q ⟨env, μ, ι, G, R, S, c⟩ => ⟨_, pt_cmp (pc_rng ha (prg_1 (x.gl hg) (x.lk.blt "range" (by decide)) hn (pl_star hp [] _))) (by cases neg <;> rfl), ?_⟩
  refine inr_core (neg := neg) (a := a) (n := n) (Q := fun v H' => ∃ d, v = .bl d ∧ Q d H') R S ?_
  have e0 : evE q.P q.call (.inr neg a n) env μ = (evE q.P q.call a env μ).bind fun d μ => (evE q.P q.call n env μ).bind fun e μ => inrS neg d e μ := rfl
  rw [e0] at c ⊢
  cases h1 : evE q.P q.call a env μ with
  | bad => rw [h1] at c; exact c
  | ex y μ1 => rw [h1] at c; exact c
  | ok d μ1 =>
    rw [h1] at c
    simp only [Res.bind_ok] at c ⊢
    cases h2 : evE q.P q.call n env μ1 with
    | bad => rw [h2] at c; exact c
    | ex y μ2 => rw [h2] at c; exact c
    | ok e2 μ2 =>
      rw [h2] at c
      simp only [Res.bind_ok] at c ⊢
      unfold inrS at c ⊢
      split
      · intro v ι' G' H' g R' rv
        cases rv
        exact ⟨_, rfl, c _ ι' G' H' g R' rfl⟩
      · rename_i hno
        split at c
        · exact absurd rfl (hno _ _ rfl)
        · exact c
/-! ### the check -/
abbrev KE := Bool → Scope → Expr → Bool
abbrev KA := Scope → List Expr → Bool
section
variable (q : Cq) (N : List Str)
/-- as a test, a thing that has a truth -/
def tst (t : Bool) (e : Expr) : Bool := !t || genT e
def cLit (d : D) : KE := fun t _ e => tst t e && match e with
  | .Constant k _ _ => litB k d
  | _ => false
def cVar (i : Nat) : KE := fun _ sc e => match e with
  | .Name y _ => decide (N[i]? = some y) && visB sc y && !dbgB y
  | _ => false
def cGlo (j : Nat) : KE := fun _ sc e => match e with
  | .Name y _ => glB sc y && decide (q.tx.gnm.lookup y = some j) && !dbgB y
  | _ => false
def cBin (o : BinO) (a b : KE) : KE := fun t sc e => tst t e && match e with
  | .BinOp e op f _ => decide (oBin op = some o) && a false sc e && b false sc f
  | _ => false
def cNeg (a : KE) : KE := fun t sc e => !t && match e with
  | .UnaryOp .USub e _ => a false sc e
  | _ => false
def cCmp (o : CmpO) (a b : KE) : KE := fun _ sc e => match e with
  | .Compare e [op] [f] _ => decide (oCmp op = some o) && a false sc e && b false sc f && plE f
  | _ => false
def ordB (op : CmpOp) (o : CmpO) : Bool := match oOrd op with
  | some p => decide (p.1 = o)
  | none => false
def cChn (o o2 : CmpO) (a b c : KE) : KE := fun _ sc e => match e with
  | .Compare e [op, op2] [f, g] _ => ordB op o && ordB op2 o2 && a false sc e && b false sc f && c false sc g && plE g
  | _ => false
def cAnd (a b : KE) : KE := fun t sc e => match e with
  | .BoolOp .And (e :: f :: r) pos => a t sc e && (match r with
    | [] => b t sc f
    | _ => b t sc (.BoolOp .And (f :: r) pos))
  | _ => false
def cOr (a b : KE) : KE := fun t sc e => match e with
  | .BoolOp .Or (e :: f :: r) pos => a t sc e && (match r with
    | [] => b t sc f
    | _ => b t sc (.BoolOp .Or (f :: r) pos))
  | _ => false
def cNot (a : KE) : KE := fun t sc e => match e with
  | .UnaryOp .Not e _ => a t sc e
  | _ => false
def cIte (c a b : KE) : KE := fun t sc e => !t && match e with
  | .IfExp e f g _ => c true sc e && a false sc f && b false sc g
  | _ => false
def cIsi (a : KE) (ts : List Ty) : KE := fun _ sc e => match e with
  | .Call (.Name y _) [e, e2] [] _ => decide (y = "isinstance") && glB sc "isinstance" && a false sc e && plE e && okIsi q sc ts e2
  | _ => false
def cCall (f : Nat) (as : KA) (dv : List D) : KE := fun _ sc e => match e with
  | .Call (.Name y _) es [] _ => glB sc y && !dbgB y && decide (q.tx.fnm.lookup y = some f) && dflB q f dv && as sc es
  | _ => false
def cMake (c : Nat) (as : KA) (dv : List D) : KE := fun _ sc e => match e with
  | .Call (.Name y _) es [] _ => glB sc y && !dbgB y && decide (q.tx.cnm.lookup y = some c) && (match q.P.init.getD c none with
    | some f => dflB q f dv
    | none => true) && as sc es
  | _ => false
def cMeth (o : KE) (m : Nat) (as : KA) : KE := fun _ sc e => match e with
  | .Call (.Attribute e m' apos) es [] pos => decide (m' = mN q m) && noSup e && decide (es.length < 30) && (apos.endLine == pos.line) && o false sc e && as sc es
  | _ => false
def cSup (f : Nat) (as : KA) : KE := fun _ sc e => match e with
  | .Call (.Attribute (.Name y _) m apos) es [] pos => decide (m = "__init__") && glB sc y && !dbgB y && (match q.tx.cnm.lookup y with
    | some c => decide (q.P.init.getD c none = some f)
    | none => false) && !es.isEmpty && decide (es.length < 30) && (apos.endLine == pos.line) && as sc es
  | _ => false
def cBi (b : BI) (as : KA) : KE := fun _ sc e => match e with
  | .Call (.Name y _) es [] _ => biOk b && decide (y = biName b) && glB sc y && !es.isEmpty && as sc es
  | _ => false
def cClc (i : Nat) (a : KE) : KE := fun _ sc e => match e with
  | .Call (.Name y _) [e] [] _ => decide (N[i]? = some y) && visB sc y && !dbgB y && a false sc e && plE e
  | _ => false
def cMlam (o : KE) (m lf : Nat) (caps : List Nat) : KE := fun _ sc e => match e with
  | .Call (.Attribute e m' apos) [.Lambda ps bd lsc _] [] pos => decide (m' = mN q m) && noSup e && (apos.endLine == pos.line) && o false sc e && lamC q N sc lf caps ps bd lsc
  | _ => false
def cDlam (g : Nat) (a : KE) (lf : Nat) (caps : List Nat) : KE := fun _ sc e => match e with
  | .Call (.Name y _) [e, .Lambda ps bd lsc _] [] _ => glB sc y && !dbgB y && decide (q.tx.fnm.lookup y = some g) && plE e && a false sc e && lamC q N sc lf caps ps bd lsc
  | _ => false
def bmOk : BM → List Expr → Bool
  | .append, es => !es.isEmpty
  | .extend, es => !es.isEmpty
  | .clear, es => es.isEmpty
  | .get, es => !es.isEmpty && decide (es.length ≤ 2)
  | .split, es => !es.isEmpty
  | .startswith, es => !es.isEmpty
  | .join, es => !es.isEmpty
  | .index, es => !es.isEmpty
  | .setdefault _, es => decide (es.length = 2)
  | .pop, es => !es.isEmpty
  | _, _ => false
def cBm (b : BM) (o : KE) (as : KA) : KE := fun _ sc e => match e with
  | .Call (.Attribute e m apos) es [] pos => decide (m = bmName b) && bmOk b es && noSup e && decide (es.length < 30) && (apos.endLine == pos.line) && o false sc e && as sc es
  | _ => false
def cFld (o : KE) (f : Nat) : KE := fun _ sc e => match e with
  | .Attribute e y _ => decide (y = q.T.fN f) && noSup e && o false sc e
  | _ => false
def cInr (neg : Bool) (a n : KE) : KE := fun _ sc e => match e with
  | .Compare e [op] [.Call (.Name y _) [f] [] _] _ => decide (op = if neg then .NotIn else .In) && decide (y = "range") && glB sc "range" && a false sc e && n false sc f && plE f
  | _ => false
def noSlB : Expr → Bool
  | .Tuple .. => true
  | .Slice .. => false
  | e => plE e
def cIx (a b : KE) : KE := fun _ sc e => match e with
  | .Subscript e i _ => a false sc e && b false sc i && plE i
  | _ => false
def cSl (a : KE) (l h : Scope → Option Expr → Bool) : KE := fun _ sc e => match e with
  | .Subscript e (.Slice el eh none _) _ => a false sc e && l sc el && h sc eh
  | _ => false
def cTup (as : KA) : KE := fun t sc e => tst t e && match e with
  | .Tuple es _ _ => as sc es && decide (es.length ≤ 1000)
  | _ => false
def cLst (as : KA) : KE := fun t sc e => tst t e && match e with
  | .List es _ => as sc es && decide (es.length ≤ 1000)
  | _ => false
def cDnew : KE := fun t _ e => tst t e && match e with
  | .Dict [] [] _ => true
  | _ => false
def isTup : Expr → Bool
  | .Tuple .. => true
  | _ => false
/-- what is walked -/
def cIt (k : ITK) (as : KA) (sc : Scope) (tg iter : Expr) : Bool := match k with
  | .seq => as sc [iter] && plE iter
  | .rng1 => match iter with
    | .Call (.Name y _) [e] [] _ => decide (y = "range") && glB sc "range" && plE e && as sc [e]
    | _ => false
  | .rng2 => match iter with
    | .Call (.Name y _) [e, f] [] _ => decide (y = "range") && glB sc "range" && plE e && plE f && as sc [e, f]
    | _ => false
  | .enum => match iter with
    | .Call (.Name y _) [e] [] _ => decide (y = "enumerate") && glB sc "enumerate" && plE e && as sc [e] && isTup tg
    | _ => false
  | .zip => match iter with
    | .Call (.Name y _) [e, f] [] _ => decide (y = "zip") && glB sc "zip" && plE e && plE f && as sc [e, f] && isTup tg
    | _ => false
  | .rev => match iter with
    | .Call (.Name y _) [e] [] _ => decide (y = "reversed") && glB sc "reversed" && plE e && as sc [e]
    | _ => false
  | .items => match iter with
    | .Call (.Attribute e m apos) [] [] cpos => decide (m = "items") && noSup e && (apos.endLine == cpos.line) && as sc [e] && isTup tg
    | _ => false
/-- the names of a block's own slots -/
def ownN (own : List Nat) : List (Str × Nat) := own.filterMap fun i => (N[i]?).map fun y => (y, i)
def litT : CE → Bool
  | .lit (.bl true) => true
  | _ => false
def cLc (k : ITK) (it : KA) (tg : TGT) (c : CE) (kc e : KE) (own : List Nat) : KE := fun t sc ex => tst t ex && match ex with
  | .ListComp elt [g] scope _ => match g with
    | ⟨tge, iter, ifs, n⟩ => decide (n = 0) && decide ((ownN N own).map (·.2) = own) && blkC N sc scope (ownN N own) && tgIn own tg && cIt k it sc tge iter && okG N (relS scope sc) false tg tge && (match ifs with
      | [] => litT c
      | [f] => kc true (relS scope sc) f
      | _ => false) && e false (relS scope sc) elt
  | _ => false
mutual
def okE : CE → Option Str → KE
  | .lit d, _ => cLit d
  | .var i, _ => cVar N i
  | .glo j, _ => cGlo q j
  | .bin o a b, m => cBin o (okE a m) (okE b m)
  | .neg a, m => cNeg (okE a m)
  | .cmp o a b, m => cCmp o (okE a m) (okE b m)
  | .chn o o2 a b c, m => cChn o o2 (okE a m) (okE b m) (okE c m)
  | .and a b, m => cAnd (okE a m) (okE b m)
  | .or a b, m => cOr (okE a m) (okE b m)
  | .not a, m => cNot (okE a m)
  | .ite c a b, m => cIte (okE c m) (okE a m) (okE b m)
  | .isi a ts, m => cIsi { q with lm := m } (okE a m) ts
  | .call f as dv, m => cCall q f (okA as m) dv
  | .make c _ as dv, m => cMake q c (okA as m) dv
  | .meth o k as, m => cMeth q (okE o m) k (okA as m)
  | .sup f as, m => cSup q f (okA as m)
  | .bi b as, m => cBi b (okA as m)
  | .bm b o as, m => cBm b (okE o m) (okA as m)
  | .unk, _ => fun _ _ _ => true
  | .inr neg a n, m => cInr neg (okE a m) (okE n m)
  | .fld o f, m => cFld q (okE o m) f
  | .ix a b, m => cIx (okE a m) (okE b m)
  | .sl a l h, m => cSl (okE a m) (okP l m) (okP h m)
  | .tup as, m => cTup (okA as m)
  | .lst _ as, m => cLst (okA as m)
  | .dnew _ _, _ => cDnew
  | .lc _ k it tg c e own, m => cLc N k (okA it m) tg c (okE c none) (okE e none) own
  | .clc i a, m => cClc N i (okE a m)
  | .mlam o k lf caps, m => cMlam { q with lm := m } N (okE o m) k lf caps
  | .dlam g a lf caps, m => cDlam { q with lm := m } N g (okE a m) lf caps
  | _, _ => fun _ _ _ => false
termination_by structural x => x
def okA : CE → Option Str → KA
  | .anil, _ => fun _ es => es.isEmpty
  | .acons a r, m => fun sc es => match es with
    | e :: es => okE a m false sc e && plE e && okA r m sc es
    | [] => false
  | _, _ => fun _ _ => false
termination_by structural x => x
def okP : CE → Option Str → Scope → Option Expr → Bool
  | .npt, _ => fun _ e => e.isNone
  | .prt a, m => fun sc e => match e with
    | some e => okE a m false sc e
    | none => false
  | _, _ => fun _ _ => false
termination_by structural x => x
end
end
end Co

set_option linter.all false
set_option maxRecDepth 100000
set_option Elab.async false
/-! Co21: what passes the check is told by the evaluator. -/
namespace Co
open PySem L2
variable {q : Cq} {N : List Str}
def Gl (q : Cq) (W : WX) (X : Cx) (t : Bool) (e : Expr) (c : CE) : Prop := match t with
  | true => PT X e (tT q W c)
  | false => PE X e (tE q W c)
def Snd (q : Cq) (N : List Str) (k : KE) (c : CE) : Prop := ∀ t sc e, k t sc e = true → ∀ W X, XOk q sc N W X → Gl q W X t e c
def SndA (q : Cq) (N : List Str) (k : KA) (c : CE) : Prop := ∀ sc es, k sc es = true → ∀ W X, XOk q sc N W X → Args X q W c es
def SndP (q : Cq) (N : List Str) (k : Scope → Option Expr → Bool) (c : CE) : Prop := ∀ sc e, k sc e = true → ∀ W X, XOk q sc N W X → PO X e (tP q W c)
theorem gl_of {sc : Scope} {W : WX} {X : Cx} {t : Bool} {e : Expr} {c : CE} (x : XOk q sc N W X) (ht : tst t e = true) (h : PE X e (tE q W c)) : Gl q W X t e c := by
  cases t with
  | false => exact h
  | true => exact st_gen x h ht
theorem noSl_of {i : Expr} (h : plE i = true) : NoSl i := by
  intro ov iv
  cases i <;> first | rfl | exact Bool.noConfusion h
theorem snd_lit {d : D} : Snd q N (cLit d) (.lit d) := by
  intro t sc e h W X x
  unfold cLit at h
  rw [Bool.and_eq_true] at h
  refine gl_of x h.1 ?_
  have h2 := h.2
  split at h2
  · exact se_lit h2
  · cases h2
theorem snd_var {i : Nat} : Snd q N (cVar N i) (.var i) := by
  intro t sc e h W X x
  unfold cVar at h
  split at h
  · simp only [Bool.and_eq_true, decide_eq_true_eq, Bool.not_eq_true'] at h
    exact gl_of x (by unfold tst; cases t <;> rfl) (se_var x h.1.1 h.1.2 h.2)
  · cases h
theorem snd_glo {i : Nat} : Snd q N (cGlo q i) (.glo i) := by
  intro t sc e h W X x
  unfold cGlo at h
  split at h
  · simp only [Bool.and_eq_true, decide_eq_true_eq, Bool.not_eq_true'] at h
    exact gl_of x (by unfold tst; cases t <;> rfl) (se_glo x h.1.1 h.1.2 h.2)
  · cases h
theorem snd_bin {o : BinO} {ka kb : KE} {a b : CE} (ha : Snd q N ka a) (hb : Snd q N kb b) : Snd q N (cBin o ka kb) (.bin o a b) := by
  intro t sc e h W X x
  unfold cBin at h
  rw [Bool.and_eq_true] at h
  refine gl_of x h.1 ?_
  have h2 := h.2
  split at h2
  · simp only [Bool.and_eq_true, decide_eq_true_eq] at h2
    exact se_bin x h2.1.1 (ha _ _ _ h2.1.2 W X x) (hb _ _ _ h2.2 W X x)
  · cases h2
theorem snd_neg {ka : KE} {a : CE} (ha : Snd q N ka a) : Snd q N (cNeg ka) (.neg a) := by
  intro t sc e h W X x
  unfold cNeg at h
  cases t with
  | true => cases h
  | false =>
    simp only [Bool.not_false, Bool.true_and] at h
    split at h
    · exact se_neg (ha _ _ _ h W X x)
    · cases h
theorem snd_cmp {o : CmpO} {ka kb : KE} {a b : CE} (ha : Snd q N ka a) (hb : Snd q N kb b) : Snd q N (cCmp o ka kb) (.cmp o a b) := by
  intro t sc e h W X x
  unfold cCmp at h
  split at h
  · simp only [Bool.and_eq_true, decide_eq_true_eq] at h
    cases t with
    | false => exact se_cmp x h.1.1.1 (ha _ _ _ h.1.1.2 W X x) (hb _ _ _ h.1.2 W X x) h.2
    | true => exact st_cmp x h.1.1.1 (ha _ _ _ h.1.1.2 W X x) (hb _ _ _ h.1.2 W X x) h.2
  · cases h
theorem ord_of {op : CmpOp} {o : CmpO} (h : ordB op o = true) : ∃ f, oOrd op = some (o, f) := by
  unfold ordB at h
  split at h
  · rename_i p hp
    obtain ⟨o', f⟩ := p
    have := of_decide_eq_true h
    simp only at this
    subst this
    exact ⟨f, hp⟩
  · cases h
theorem snd_chn {o o2 : CmpO} {ka kb kc : KE} {a b c : CE} (ha : Snd q N ka a) (hb : Snd q N kb b) (hc : Snd q N kc c) : Snd q N (cChn o o2 ka kb kc) (.chn o o2 a b c) := by
  intro t sc e h W X x
  unfold cChn at h
  split at h
  · simp only [Bool.and_eq_true] at h
    obtain ⟨⟨⟨⟨⟨h1, h2⟩, h3⟩, h4⟩, h5⟩, h6⟩ := h
    obtain ⟨f1, e1⟩ := ord_of h1
    obtain ⟨f2, e2⟩ := ord_of h2
    cases t with
    | false => exact se_chn e1 e2 x (ha _ _ _ h3 W X x) (hb _ _ _ h4 W X x) (hc _ _ _ h5 W X x) h6
    | true => exact st_chn e1 e2 x (ha _ _ _ h3 W X x) (hb _ _ _ h4 W X x) (hc _ _ _ h5 W X x) h6
  · cases h
theorem snd_and {ka kb : KE} {a b : CE} (ha : Snd q N ka a) (hb : Snd q N kb b) : Snd q N (cAnd ka kb) (.and a b) := by
  intro t sc e h W X x
  unfold cAnd at h
  split at h
  · rename_i e1 f r pos
    rw [Bool.and_eq_true] at h
    have h1 := ha _ _ _ h.1 W X x
    cases t with
    | false =>
      refine se_and x h1 ?_
      have h2 := h.2
      split at h2
      · exact pe_one (hb _ _ _ h2 W X x)
      · exact hb _ _ _ h2 W X x
    | true =>
      refine st_and h1 ?_
      have h2 := h.2
      split at h2
      · exact st_one (hb _ _ _ h2 W X x)
      · exact hb _ _ _ h2 W X x
  · cases h
theorem snd_or {ka kb : KE} {a b : CE} (ha : Snd q N ka a) (hb : Snd q N kb b) : Snd q N (cOr ka kb) (.or a b) := by
  intro t sc e h W X x
  unfold cOr at h
  split at h
  · rename_i e1 f r pos
    rw [Bool.and_eq_true] at h
    have h1 := ha _ _ _ h.1 W X x
    cases t with
    | false =>
      refine se_or x h1 ?_
      have h2 := h.2
      split at h2
      · exact pe_one (hb _ _ _ h2 W X x)
      · exact hb _ _ _ h2 W X x
    | true =>
      refine st_or h1 ?_
      have h2 := h.2
      split at h2
      · exact st_one (hb _ _ _ h2 W X x)
      · exact hb _ _ _ h2 W X x
  · cases h
theorem snd_not {ka : KE} {a : CE} (ha : Snd q N ka a) : Snd q N (cNot ka) (.not a) := by
  intro t sc e h W X x
  unfold cNot at h
  split at h
  · have h1 := ha _ _ _ h W X x
    cases t with
    | false => exact se_not x h1
    | true => exact st_not h1
  · cases h
theorem snd_ite {kc ka kb : KE} {c a b : CE} (hc : Snd q N kc c) (ha : Snd q N ka a) (hb : Snd q N kb b) : Snd q N (cIte kc ka kb) (.ite c a b) := by
  intro t sc e h W X x
  unfold cIte at h
  cases t with
  | true => cases h
  | false =>
    simp only [Bool.not_false, Bool.true_and] at h
    split at h
    · rw [Bool.and_eq_true, Bool.and_eq_true] at h
      exact se_ite x (hc _ _ _ h.1.1 W X x) (ha _ _ _ h.1.2 W X x) (hb _ _ _ h.2 W X x)
    · cases h
theorem snd_isi {ka : KE} {a : CE} {ts : List Ty} (ha : Snd q N ka a) : Snd q N (cIsi q ka ts) (.isi a ts) := by
  intro t sc e h W X x
  unfold cIsi at h
  split at h
  · simp only [Bool.and_eq_true, decide_eq_true_eq] at h
    obtain ⟨⟨⟨⟨rfl, h1⟩, h2⟩, h3⟩, h4⟩ := h
    exact gl_of x (by unfold tst; cases t <;> rfl) (se_isi x h1 (ha _ _ _ h2 W X x) h3 h4)
  · cases h
theorem snd_call {f : Nat} {ka : KA} {as : CE} {dv : List D} (ha : SndA q N ka as) : Snd q N (cCall q f ka dv) (.call f as dv) := by
  intro t sc e h W X x
  unfold cCall at h
  split at h
  · simp only [Bool.and_eq_true, decide_eq_true_eq, Bool.not_eq_true'] at h
    obtain ⟨⟨⟨⟨h1, h2⟩, h3⟩, h4⟩, h5⟩ := h
    exact gl_of x (by unfold tst; cases t <;> rfl) (se_call x h1 h2 h3 h4 (ha _ _ h5 W X x))
  · cases h
theorem snd_make {c : Nat} {fz : Bool} {ka : KA} {as : CE} {dv : List D} (ha : SndA q N ka as) : Snd q N (cMake q c ka dv) (.make c fz as dv) := by
  intro t sc e h W X x
  unfold cMake at h
  split at h
  · simp only [Bool.and_eq_true, decide_eq_true_eq, Bool.not_eq_true'] at h
    obtain ⟨⟨⟨⟨h1, h2⟩, h3⟩, h4⟩, h5⟩ := h
    exact gl_of x (by unfold tst; cases t <;> rfl) (se_make x h1 h2 h3 (fun f hf => by rw [hf] at h4; exact h4) (ha _ _ h5 W X x))
  · cases h
theorem dfl_nil (f : Nat) : dflB q f [] = true := by
  unfold dflB
  simp
theorem snd_meth {ko : KE} {o : CE} {m : Nat} {ka : KA} {as : CE} (ho : Snd q N ko o) (ha : SndA q N ka as) : Snd q N (cMeth q ko m ka) (.meth o m as) := by
  intro t sc e h W X x
  unfold cMeth at h
  split at h
  · simp only [Bool.and_eq_true, decide_eq_true_eq] at h
    obtain ⟨⟨⟨⟨⟨rfl, h1⟩, h2⟩, h3⟩, h4⟩, h5⟩ := h
    have A := ha _ _ h5 W X x
    exact gl_of x (by unfold tst; cases t <;> rfl) (se_meth x (ho _ _ _ h4 W X x) A.pa h1 A.pl h2 h3 A.nl' dfl_nil)
  · cases h
theorem ne_of_isEmpty {α : Type} {l : List α} (h : (!l.isEmpty) = true) : l ≠ [] := by
  intro e
  rw [e] at h
  cases h
theorem snd_sup {f : Nat} {ka : KA} {as : CE} (ha : SndA q N ka as) : Snd q N (cSup q f ka) (.sup f as) := by
  intro t sc e h W X x
  unfold cSup at h
  split at h
  · simp only [Bool.and_eq_true, decide_eq_true_eq, Bool.not_eq_true'] at h
    obtain ⟨⟨⟨⟨⟨⟨⟨rfl, h1⟩, h2⟩, h3⟩, h4⟩, h5⟩, h6⟩, h7⟩ := h
    split at h3
    · rename_i c hc
      exact gl_of x (by unfold tst; cases t <;> rfl) (se_sup x h1 h2 hc (of_decide_eq_true h3) (ha _ _ h7 W X x) (ne_of_isEmpty (by rw [h4]; rfl)) h5 h6)
    · cases h3
  · cases h
theorem snd_bi {b : BI} {ka : KA} {as : CE} (ha : SndA q N ka as) : Snd q N (cBi b ka) (.bi b as) := by
  intro t sc e h W X x
  unfold cBi at h
  split at h
  · simp only [Bool.and_eq_true, decide_eq_true_eq] at h
    obtain ⟨⟨⟨⟨h1, rfl⟩, h2⟩, h3⟩, h4⟩ := h
    exact gl_of x (by unfold tst; cases t <;> rfl) (se_bi x h1 h2 (ha _ _ h4 W X x) (ne_of_isEmpty h3))
  · cases h
theorem snd_bm {b : BM} {ko : KE} {o : CE} {ka : KA} {as : CE} (ho : Snd q N ko o) (ha : SndA q N ka as) : Snd q N (cBm b ko ka) (.bm b o as) := by
  intro t sc e h W X x
  unfold cBm at h
  split at h
  · simp only [Bool.and_eq_true, decide_eq_true_eq] at h
    obtain ⟨⟨⟨⟨⟨⟨rfl, h0⟩, h1⟩, h2⟩, h3⟩, h4⟩, h5⟩ := h
    have A := ha _ _ h5 W X x
    have ho := ho _ _ _ h4 W X x
    refine gl_of x (by unfold tst; cases t <;> rfl) ?_
    cases b <;> first | cases h0 | skip
    · exact bm_append x ho A.pa ⟨h1, A.pl, h2, h3⟩ (ne_of_isEmpty h0)
    · exact bm_extend x ho A.pa ⟨h1, A.pl, h2, h3⟩ (ne_of_isEmpty h0)
    · have h0' : List.isEmpty _ = true := h0
      obtain rfl := List.isEmpty_iff.mp h0'
      rw [A.nl]
      exact bm_clear x ho h1 h3
    · have h0' : (!List.isEmpty _ && decide (List.length _ ≤ 2)) = true := h0
      rw [Bool.and_eq_true, decide_eq_true_eq] at h0'
      exact bm_get x ho A ⟨h1, A.pl, h2, h3⟩ h0'.2 (ne_of_isEmpty h0'.1)
    · exact bm_split x ho A ⟨h1, A.pl, h2, h3⟩ (ne_of_isEmpty h0)
    · exact bm_join x ho A ⟨h1, A.pl, h2, h3⟩ (ne_of_isEmpty h0)
    · exact bm_startswith x ho A ⟨h1, A.pl, h2, h3⟩ (ne_of_isEmpty h0)
    · exact bm_index x ho A ⟨h1, A.pl, h2, h3⟩ (ne_of_isEmpty h0)
    · have h0' : decide (List.length _ = 2) = true := h0
      have h0' := of_decide_eq_true h0'
      cases A with
      | nil => simp at h0'
      | cons a1 p1 A => cases A with
        | nil => simp at h0'
        | cons a2 p2 A => cases A with
          | nil => exact bm_setdefault x ho a1 a2 ⟨h1, by simp [p1, p2], h2, h3⟩
          | cons _ _ _ => simp at h0'
    · exact bm_pop x ho A.pa ⟨h1, A.pl, h2, h3⟩ (ne_of_isEmpty h0)
  · cases h
theorem snd_unk : Snd q N (fun _ _ _ => true) .unk := by
  intro t sc e h W X x
  cases t with
  | false => exact PE.dyn fun σ H Q ⟨env, μ, ι, G, R, S, c⟩ => c.elim
  | true => exact PT.dyn fun σ H Q ⟨env, μ, ι, G, R, S, c⟩ => c.elim
theorem snd_inr {neg : Bool} {ka kn : KE} {a n : CE} (ha : Snd q N ka a) (hn : Snd q N kn n) : Snd q N (cInr neg ka kn) (.inr neg a n) := by
  intro t sc e h W X x
  unfold cInr at h
  split at h
  · simp only [Bool.and_eq_true, decide_eq_true_eq] at h
    obtain ⟨⟨⟨⟨⟨rfl, rfl⟩, h1⟩, h2⟩, h3⟩, h4⟩ := h
    cases t with
    | false => exact se_inr x h1 (ha _ _ _ h2 W X x) (hn _ _ _ h3 W X x) h4
    | true => exact st_inr x h1 (ha _ _ _ h2 W X x) (hn _ _ _ h3 W X x) h4
  · cases h
theorem snd_fld {ko : KE} {o : CE} {f : Nat} (ho : Snd q N ko o) : Snd q N (cFld q ko f) (.fld o f) := by
  intro t sc e h W X x
  unfold cFld at h
  split at h
  · simp only [Bool.and_eq_true, decide_eq_true_eq] at h
    obtain ⟨⟨rfl, h1⟩, h2⟩ := h
    exact gl_of x (by unfold tst; cases t <;> rfl) (se_fld x (ho _ _ _ h2 W X x) h1)
  · cases h
theorem snd_ix {ka kb : KE} {a b : CE} (ha : Snd q N ka a) (hb : Snd q N kb b) : Snd q N (cIx ka kb) (.ix a b) := by
  intro t sc e h W X x
  unfold cIx at h
  split at h
  · rw [Bool.and_eq_true, Bool.and_eq_true] at h
    exact gl_of x (by unfold tst; cases t <;> rfl) (se_ix x (ha _ _ _ h.1.1 W X x) (hb _ _ _ h.1.2 W X x) h.2 (noSl_of h.2))
  · cases h
theorem snd_sl {ka : KE} {a : CE} {kl kh : Scope → Option Expr → Bool} {l r : CE} (ha : Snd q N ka a) (hl : SndP q N kl l) (hr : SndP q N kh r) : Snd q N (cSl ka kl kh) (.sl a l r) := by
  intro t sc e h W X x
  unfold cSl at h
  split at h
  · rw [Bool.and_eq_true, Bool.and_eq_true] at h
    exact gl_of x (by unfold tst; cases t <;> rfl) (se_sl x (ha _ _ _ h.1.1 W X x) (hl _ _ h.1.2 W X x) (hr _ _ h.2 W X x))
  · cases h
theorem snd_tup {ka : KA} {as : CE} (ha : SndA q N ka as) : Snd q N (cTup ka) (.tup as) := by
  intro t sc e h W X x
  unfold cTup at h
  rw [Bool.and_eq_true] at h
  refine gl_of x h.1 ?_
  have h2 := h.2
  split at h2
  · rw [Bool.and_eq_true, decide_eq_true_eq] at h2
    exact se_tup (ha _ _ h2.1 W X x) h2.2
  · cases h2
theorem snd_lst {fz : Bool} {ka : KA} {as : CE} (ha : SndA q N ka as) : Snd q N (cLst ka) (.lst fz as) := by
  intro t sc e h W X x
  unfold cLst at h
  rw [Bool.and_eq_true] at h
  refine gl_of x h.1 ?_
  have h2 := h.2
  split at h2
  · rw [Bool.and_eq_true, decide_eq_true_eq] at h2
    exact se_lst (ha _ _ h2.1 W X x) h2.2
  · cases h2
theorem snd_dnew {t fz : Bool} : Snd q N cDnew (.dnew t fz) := by
  intro t sc e h W X x
  unfold cDnew at h
  rw [Bool.and_eq_true] at h
  refine gl_of x h.1 ?_
  have h2 := h.2
  split at h2
  · exact se_dnew
  · cases h2
theorem arg1 {X : Cx} {W : WX} {as : CE} {e : Expr} (A : Args X q W as [e]) : ∃ a, as = .acons a .anil ∧ PE X e (tE q W a) := by
  cases A with
  | cons h1 _ A => cases A; exact ⟨_, rfl, h1⟩
theorem isTup_of {e : Expr} (h : isTup e = true) : ∃ l k p, e = .Tuple l k p := by
  cases e <;> first | exact ⟨_, _, _, rfl⟩ | exact Bool.noConfusion h
theorem snd_it {k : ITK} {ka : KA} {as : CE} (ha : SndA q N ka as) {sc : Scope} {W : WX} {X : Cx} (x : XOk q sc N W X) {tg iter : Expr} (h : cIt k ka sc tg iter = true) : PI X tg iter (tI q W k as) ∧ plE iter = true := by
  unfold cIt at h
  cases k <;> simp only at h
  · rw [Bool.and_eq_true] at h
    obtain ⟨a, rfl, h1⟩ := arg1 (ha _ _ h.1 W X x)
    exact ⟨pi_seq x h1, h.2⟩
  · split at h
    · simp only [Bool.and_eq_true, decide_eq_true_eq] at h
      obtain ⟨⟨⟨rfl, h1⟩, h2⟩, h3⟩ := h
      exact ⟨pi_rng1 x h1 h2 (ha _ _ h3 W X x).pa, rfl⟩
    · cases h
  · split at h
    · simp only [Bool.and_eq_true, decide_eq_true_eq] at h
      obtain ⟨⟨⟨⟨rfl, h1⟩, h2⟩, h2'⟩, h3⟩ := h
      exact ⟨pi_rng2 x h1 h2 h2' (ha _ _ h3 W X x).pa, rfl⟩
    · cases h
  · split at h
    · simp only [Bool.and_eq_true, decide_eq_true_eq] at h
      obtain ⟨⟨⟨⟨rfl, h1⟩, h2⟩, h3⟩, h4⟩ := h
      obtain ⟨_, _, _, rfl⟩ := isTup_of h4
      exact ⟨pi_enu x h1 h2 (ha _ _ h3 W X x).pa, rfl⟩
    · cases h
  · split at h
    · simp only [Bool.and_eq_true, decide_eq_true_eq] at h
      obtain ⟨⟨⟨⟨⟨rfl, h1⟩, h2⟩, h2'⟩, h3⟩, h4⟩ := h
      obtain ⟨_, _, _, rfl⟩ := isTup_of h4
      exact ⟨pi_zi x h1 h2 h2' (ha _ _ h3 W X x).pa, rfl⟩
    · cases h
  · split at h
    · simp only [Bool.and_eq_true, decide_eq_true_eq] at h
      obtain ⟨⟨⟨⟨rfl, h1⟩, h2⟩, h3⟩, h4⟩ := h
      obtain ⟨a, rfl, h5⟩ := arg1 (ha _ _ h3 W X x)
      obtain ⟨_, _, _, rfl⟩ := isTup_of h4
      exact ⟨pi_it x h1 h2 h5, rfl⟩
    · cases h
  · split at h
    · simp only [Bool.and_eq_true, decide_eq_true_eq] at h
      obtain ⟨⟨⟨rfl, h1⟩, h2⟩, h3⟩ := h
      obtain ⟨a, rfl, h5⟩ := arg1 (ha _ _ h3 W X x)
      exact ⟨pi_rv x h1 h2 h5, rfl⟩
    · cases h
theorem litT_of {c : CE} (h : litT c = true) : c = .lit (.bl true) := by
  unfold litT at h
  split at h
  · rfl
  · cases h
/-- what is checked of a comprehension -/
theorem lcok_of {k : ITK} {ka : KA} {it c e : CE} {kc ke : KE} {tg : TGT} {own : List Nat} (hi : SndA q N ka it) (hc : Snd q.nomk N kc c) (he : Snd q.nomk N ke e) {sc : Scope} {W : WX} {X : Cx} (x : XOk q sc N W X) {t : Bool} {ex : Expr} (h : cLc N k ka tg c kc ke own t sc ex = true) :
    tst t ex = true ∧ ∃ elt tge iter ifs scope pos, ex = .ListComp elt [⟨tge, iter, ifs, 0⟩] scope pos ∧ (ownN N own).map (·.2) = own ∧ LcOk q sc N W X k it tg c e elt tge iter ifs scope (ownN N own) := by
  unfold cLc at h
  rw [Bool.and_eq_true] at h
  refine ⟨h.1, ?_⟩
  have h2 := h.2
  split at h2
  · rename_i elt g scope pos
    obtain ⟨tge, iter, ifs, n⟩ := g
    simp only [Bool.and_eq_true, decide_eq_true_eq] at h2
    obtain ⟨⟨⟨⟨⟨⟨⟨rfl, h1⟩, h2⟩, h3⟩, h4⟩, h5⟩, h6⟩, h7⟩ := h2
    obtain ⟨pi, pl⟩ := snd_it hi x h4
    refine ⟨elt, tge, iter, ifs, scope, pos, rfl, h1, ?_, by rw [h1]; exact h3, h2, pi, pl, h5, fun X' x' f hf => ?_, fun X' x' => he _ _ _ h7 W0 X' x'⟩
    · split at h6
      · exact litT_of h6
      · trivial
      · cases h6
    · split at h6
      · cases hf
      · rw [List.mem_singleton] at hf
        subst hf
        exact hc _ _ _ h6 W0 X' x'
      · cases h6
  · cases h2
theorem snd_lc {fz : Bool} {k : ITK} {ka : KA} {it c e : CE} {kc ke : KE} {tg : TGT} {own : List Nat} (hi : SndA q N ka it) (hc : Snd q.nomk N kc c) (he : Snd q.nomk N ke e) : Snd q N (cLc N k ka tg c kc ke own) (.lc fz k it tg c e own) := by
  intro t sc ex h W X x
  obtain ⟨h1, elt, tge, iter, ifs, scope, pos, rfl, h2, l⟩ := lcok_of hi hc he x h
  refine gl_of x h1 ?_
  have := se_lc (fz := fz) (pos := pos) x l
  rw [h2] at this
  exact this
theorem snd_clc {i : Nat} {ka : KE} {a : CE} (ha : Snd q N ka a) : Snd q N (cClc N i ka) (.clc i a) := by
  intro t sc e h W X x
  unfold cClc at h
  split at h
  · simp only [Bool.and_eq_true, decide_eq_true_eq, Bool.not_eq_true'] at h
    obtain ⟨⟨⟨⟨h1, h2⟩, h3⟩, h4⟩, h5⟩ := h
    exact gl_of x (by unfold tst; cases t <;> rfl) (se_clc x h1 h2 h3 (ha _ _ _ h4 W X x) h5)
  · cases h
theorem snd_mlam {m lf : Nat} {caps : List Nat} {ko : KE} {o : CE} (ho : Snd q N ko o) : Snd q N (cMlam q N ko m lf caps) (.mlam o m lf caps) := by
  intro t sc e h W X x
  unfold cMlam at h
  split at h
  · simp only [Bool.and_eq_true, decide_eq_true_eq] at h
    obtain ⟨⟨⟨⟨rfl, h2⟩, h3⟩, h4⟩, h5⟩ := h
    exact gl_of x (by unfold tst; cases t <;> rfl) (se_mlamC x h5 (ho _ _ _ h4 W X x) h2 h3)
  · cases h
theorem snd_dlam {g lf : Nat} {caps : List Nat} {ka : KE} {a : CE} (ha : Snd q N ka a) : Snd q N (cDlam q N g ka lf caps) (.dlam g a lf caps) := by
  intro t sc e h W X x
  unfold cDlam at h
  split at h
  · simp only [Bool.and_eq_true, decide_eq_true_eq, Bool.not_eq_true'] at h
    obtain ⟨⟨⟨⟨⟨h1, h2⟩, h3⟩, h4⟩, h5⟩, h6⟩ := h
    exact gl_of x (by unfold tst; cases t <;> rfl) (se_dlam x h6 h1 h2 h3 (ha _ _ _ h5 W X x) h4)
  · cases h
theorem okE_all : ∀ (c : CE) (m : Option Str), Snd { q with lm := m } N (okE q N c m) c ∧ SndA { q with lm := m } N (okA q N c m) c ∧ SndP { q with lm := m } N (okP q N c m) c := by
  have noA : ∀ m c, SndA { q with lm := m } N (fun _ _ => false) c := fun m c sc es h => by cases h
  have noP : ∀ m c, SndP { q with lm := m } N (fun _ _ => false) c := fun m c sc es h => by cases h
  have noE : ∀ m c, Snd { q with lm := m } N (fun _ _ _ => false) c := fun m c t sc es h => by cases h
  intro c
  induction c with
  | lit d => exact fun m => ⟨snd_lit (q := { q with lm := m }), noA _ _, noP _ _⟩
  | var i => exact fun m => ⟨snd_var (q := { q with lm := m }), noA _ _, noP _ _⟩
  | glo i => exact fun m => ⟨snd_glo (q := { q with lm := m }), noA _ _, noP _ _⟩
  | bin o a b ha hb => exact fun m => ⟨snd_bin (q := { q with lm := m }) (ha m).1 (hb m).1, noA _ _, noP _ _⟩
  | neg a ha => exact fun m => ⟨snd_neg (q := { q with lm := m }) (ha m).1, noA _ _, noP _ _⟩
  | cmp o a b ha hb => exact fun m => ⟨snd_cmp (q := { q with lm := m }) (ha m).1 (hb m).1, noA _ _, noP _ _⟩
  | chn o o2 a b c ha hb hc => exact fun m => ⟨snd_chn (q := { q with lm := m }) (ha m).1 (hb m).1 (hc m).1, noA _ _, noP _ _⟩
  | and a b ha hb => exact fun m => ⟨snd_and (q := { q with lm := m }) (ha m).1 (hb m).1, noA _ _, noP _ _⟩
  | or a b ha hb => exact fun m => ⟨snd_or (q := { q with lm := m }) (ha m).1 (hb m).1, noA _ _, noP _ _⟩
  | not a ha => exact fun m => ⟨snd_not (q := { q with lm := m }) (ha m).1, noA _ _, noP _ _⟩
  | ite c a b hc ha hb => exact fun m => ⟨snd_ite (q := { q with lm := m }) (hc m).1 (ha m).1 (hb m).1, noA _ _, noP _ _⟩
  | isi a ts ha => exact fun m => ⟨snd_isi (q := { q with lm := m }) (ha m).1, noA _ _, noP _ _⟩
  | call f as dv ha => exact fun m => ⟨snd_call (q := { q with lm := m }) (ha m).2.1, noA _ _, noP _ _⟩
  | make c fz as dv ha => exact fun m => ⟨snd_make (q := { q with lm := m }) (ha m).2.1, noA _ _, noP _ _⟩
  | meth o k as ho ha => exact fun m => ⟨snd_meth (q := { q with lm := m }) (ho m).1 (ha m).2.1, noA _ _, noP _ _⟩
  | sup f as ha => exact fun m => ⟨snd_sup (q := { q with lm := m }) (ha m).2.1, noA _ _, noP _ _⟩
  | bi b as ha => exact fun m => ⟨snd_bi (q := { q with lm := m }) (ha m).2.1, noA _ _, noP _ _⟩
  | bm b o as ho ha => exact fun m => ⟨snd_bm (q := { q with lm := m }) (ho m).1 (ha m).2.1, noA _ _, noP _ _⟩
  | unk => exact fun m => ⟨snd_unk (q := { q with lm := m }), noA _ _, noP _ _⟩
  | inr neg a n ha hn => exact fun m => ⟨snd_inr (q := { q with lm := m }) (ha m).1 (hn m).1, noA _ _, noP _ _⟩
  | clc i a ha => exact fun m => ⟨snd_clc (q := { q with lm := m }) (ha m).1, noA _ _, noP _ _⟩
  | mlam o k f caps ho => exact fun m => ⟨snd_mlam (q := { q with lm := m }) (ho m).1, noA _ _, noP _ _⟩
  | dlam g a f caps ha => exact fun m => ⟨snd_dlam (q := { q with lm := m }) (ha m).1, noA _ _, noP _ _⟩
  | fld o f ho => exact fun m => ⟨snd_fld (q := { q with lm := m }) (ho m).1, noA _ _, noP _ _⟩
  | ix a b ha hb => exact fun m => ⟨snd_ix (q := { q with lm := m }) (ha m).1 (hb m).1, noA _ _, noP _ _⟩
  | sl a l h ha hl hh => exact fun m => ⟨snd_sl (q := { q with lm := m }) (ha m).1 (hl m).2.2 (hh m).2.2, noA _ _, noP _ _⟩
  | tup as ha => exact fun m => ⟨snd_tup (q := { q with lm := m }) (ha m).2.1, noA _ _, noP _ _⟩
  | lst fz as ha => exact fun m => ⟨snd_lst (q := { q with lm := m }) (ha m).2.1, noA _ _, noP _ _⟩
  | dnew t fz => exact fun m => ⟨snd_dnew (q := { q with lm := m }) (t := t), noA _ _, noP _ _⟩
  | lc fz k it tg c e own hi hc he => exact fun m => ⟨snd_lc (q := { q with lm := m }) (hi m).2.1 (hc none).1 (he none).1, noA _ _, noP _ _⟩
  | anil =>
    refine fun m => ⟨noE _ _, fun sc es h W X x => ?_, noP _ _⟩
    cases es with
    | nil => exact .nil
    | cons _ _ => cases h
  | acons a r ha hr =>
    refine fun m => ⟨noE _ _, fun sc es h W X x => ?_, noP _ _⟩
    cases es with
    | nil => cases h
    | cons e es =>
      have h' : (okE q N a m false sc e && plE e && okA q N r m sc es) = true := h
      rw [Bool.and_eq_true, Bool.and_eq_true] at h'
      exact .cons ((ha m).1 _ _ _ h'.1.1 W X x) h'.1.2 ((hr m).2.1 _ _ h'.2 W X x)
  | npt =>
    refine fun m => ⟨noE _ _, noA _ _, fun sc e h W X x => ?_⟩
    cases e with
    | none => exact po_npt
    | some _ => cases h
  | prt a ha =>
    refine fun m => ⟨noE _ _, noA _ _, fun sc e h W X x => ?_⟩
    cases e with
    | none => cases h
    | some e => exact po_prt ((ha m).1 _ _ _ h W X x)
  | _ => exact fun m => ⟨noE _ _, noA _ _, noP _ _⟩
end Co

set_option linter.all false
set_option maxRecDepth 100000
set_option Elab.async false
/-! Co22: statements. -/
namespace Co
open PySem L2
variable {q : Cq} {sc : Scope} {N : List Str} {W : WX} {X : Cx}
structure SOk (q : Cq) (sc : Scope) (N : List Str) (W : WX) (X : Cx) : Prop where
  x : XOk q sc N W X
  po : PassesOwn (model X.prog X.w) X.A X.env X.xe
  fnl : ∀ y, X.fn y = true
theorem SOk.g (s : SOk q sc N W X) : GOk q sc N true X := ⟨s.x.eK, s.x.eS, s.x.eN, s.x.nd, s.x.calm, fun _ => s.fnl⟩
def CtS (T : Nam) (W : WX) (ι : List Addr) (G : Hp) (r : RS) (D : Ends) : Prop := match r with
  | .ok (.nx, env) μ => ∀ (σ' : L2.St) (ι' : List Addr) (G' H' : Hp), Grow ι ι' G G' → RelH T ι' G' μ H' → RelS T ι' G' env σ' → D.nx σ' H'
  | .ok (.rt d, _) μ => ∀ (v : V) (ι' : List Addr) (G' H' : Hp), Grow ι ι' G G' → RelH T ι' G' μ H' → RepD T ι' G' v d → D.rt v H'
  | .ok (.bk, env) μ => ∀ (σ' : L2.St) (ι' : List Addr) (G' H' : Hp), Grow ι ι' G G' → RelH T ι' G' μ H' → RelS T ι' G' env σ' → D.bk σ' H'
  | .ok (.ct, env) μ => ∀ (σ' : L2.St) (ι' : List Addr) (G' H' : Hp), Grow ι ι' G G' → RelH T ι' G' μ H' → RelS T ι' G' env σ' → D.ct σ' H'
  | .ex (x, env) μ => ∀ (cls : Value) (dd : Option Addr) (σ' : L2.St) (ι' : List Addr) (G' H' : Hp), Grow ι ι' G G' → RelH T ι' G' μ H' → RelS T ι' G' env σ' → RepX T ι' G' H' cls dd x → W cls dd σ' H'
  | .bad => False
def tS (q : Cq) (W : WX) (s : CS) : TS := fun D σ H => ∃ (env : Env) (μ : Store) (ι : List Addr) (G : Hp), RelH q.T ι G μ H ∧ RelS q.T ι G env σ ∧ CtS q.T W ι G (evS q.P q.call s env μ) D
section
variable {T : Nam} {ι ι' : List Addr} {G G' : Hp} {r : RS} {Z : Ends}
theorem CtS.grow (h : CtS T W ι G r Z) (g : Grow ι ι' G G') : CtS T W ι' G' r Z := by
  cases r with
  | bad => exact h
  | ex x μ => exact fun cls dd σ' ι2 G2 H g2 => h cls dd σ' ι2 G2 H (g.trans g2)
  | ok p μ =>
    obtain ⟨s, env⟩ := p
    cases s with
    | nx => exact fun σ' ι2 G2 H g2 => h σ' ι2 G2 H (g.trans g2)
    | rt d => exact fun v ι2 G2 H g2 => h v ι2 G2 H (g.trans g2)
    | bk => exact fun σ' ι2 G2 H g2 => h σ' ι2 G2 H (g.trans g2)
    | ct => exact fun σ' ι2 G2 H g2 => h σ' ι2 G2 H (g.trans g2)
theorem CtS.lift {env : Env} {σ : L2.St} {rd : RD} {f : D → Store → RS} {Q : VK} (h : CtS T W ι G (Co.lift env rd f) Z) (S : RelS T ι G env σ)
    (k : ∀ d μ v ι' G' H, rd = .ok d μ → Grow ι ι' G G' → RelH T ι' G' μ H → RepD T ι' G' v d → CtS T W ι' G' (f d μ) Z → Q v H) : Ct T W σ ι G rd Q := by
  cases rd with
  | bad => exact h
  | ok d μ => exact fun v ι' G' H g R rv => k d μ v ι' G' H rfl g R rv (CtS.grow h g)
  | ex x μ => exact fun cls dd ι' G' H g R rx => h cls dd σ ι' G' H g R (S.mono g) rx
theorem CtS.ofO {env : Env} {o : Option (Sg × Env)} {μ : Store} (h : CtS T W ι G (Co.ofO o μ) Z) : ∃ p, o = some p ∧ CtS T W ι G (.ok p μ) Z := by
  cases o with
  | none => exact h.elim
  | some p => exact ⟨p, rfl, h⟩
end
theorem PSs.none {t : TS} (h : ∀ D σ H, t D σ H → D.nx σ H) : PSs X [] t := PSs.dyn fun D σ H q => ⟨_, pss_nil, h D σ H q⟩
/-- a store that is none of the swapped ones -/
def plainAsg (e : Expr) : Bool := plE e && !isComp e && !isTup e
theorem plain_parts {e : Expr} (h : plainAsg e = true) : plE e = true ∧ isComp e = false ∧ isTup e = false := by
  unfold plainAsg at h
  simp only [Bool.and_eq_true, Bool.not_eq_true'] at h
  exact ⟨h.1.1, h.1.2, h.2⟩
def isTg : Expr → Bool
  | .Name .. => true
  | .Tuple .. => true
  | _ => false
theorem ss_asg (s : SOk q sc N W X) {tg : TGT} {c : CE} {tge e : Expr} {pos : Pos} (hG : okG N sc true tg tge = true) (hp : plE e = true) (hcp : isComp e = false ∨ ∃ y p, tge = .Name y p ∧ sc.names.lookup y = some .cell) (htp : isTup e = false ∨ ∃ y p, tge = .Name y p) (he : PE X e (tE q W c)) : PS X (.Assign [tge] e pos) (tS q W (.asg tg c)) := by
  have hw : swappedStores [tge] e X.env = pure none := by
    rcases htp with ht | ⟨y, p, rfl⟩
    · cases tge <;> cases e <;> first | rfl | exact Bool.noConfusion ht
    · rfl
  have hsw : swapsWithSole [tge] e pos.line X.env = pure false := by
    unfold swapsWithSole
    rcases hcp with h | ⟨y, p, rfl, hy⟩
    · exact pl_swap hp h _ _ _
    · cases hc : isComp e with
      | false => exact pl_swap hp hc _ _ _
      | true =>
        have ky : X.env.kindOf y = some .cell := by
          show X.env.scope.names.lookup y = _
          rw [s.x.eS]
          exact hy
        have e0 : ((some NameKind.cell == some NameKind.local) : Bool) = false := by decide
        cases e <;> first | exact Bool.noConfusion hc | skip
        unfold swapsWith
        simp only [ky, e0, Bool.and_false, Bool.false_and]
  have h1 : (assignEach [tge] X.env).map (·.2) = [assign tge X.env] := by
    cases tg <;> cases tge <;> first | rfl | exact Bool.noConfusion hG
  refine PS.dyn fun D σ H ⟨env, μ, ι, G, R, S, k⟩ => ⟨_, ps_asg he (pg_ok s.g hG) hsw hw h1, ?_⟩
  have k' : CtS q.T W ι G (Co.lift env (evE q.P q.call c env μ) fun d μ => ofO ((asgT tg d env).map fun env' => (.nx, env')) μ) D := k
  refine ⟨env, μ, ι, G, R, S, k'.lift S fun d μ1 v ι1 G1 H1 _ g r rv k1 => ?_⟩
  obtain ⟨p, hp, k2⟩ := CtS.ofO (env := env) k1
  obtain ⟨env', ha, rfl⟩ := Option.map_eq_some_iff.mp hp
  exact ⟨ι1, G1, μ1, env, env', d, r, S.mono g, rv, ha, fun σ' S' _ _ => k2 σ' ι1 G1 H1 (Grow.refl _ _) r S'⟩
theorem ss_exp {c : CE} {e : Expr} {pos : Pos} (hp : plE e = true) (hc : isComp e = false) (he : PE X e (tE q W c)) : PS X (.Expr e pos) (tS q W (.exp c)) := by
  refine PS.dyn fun D σ H ⟨env, μ, ι, G, R, S, k⟩ => ⟨_, ps_expr he (pl_swap hp hc _ _ _), ?_⟩
  have k' : CtS q.T W ι G (Co.lift env (evE q.P q.call c env μ) fun _ μ => .ok (.nx, env) μ) D := k
  exact ⟨env, μ, ι, G, R, S, k'.lift S fun d μ1 v ι1 G1 H1 _ g r rv k1 => k1 σ ι1 G1 H1 (Grow.refl _ _) r (S.mono g)⟩
theorem ss_ret {c : CE} {e : Expr} {pos : Pos} (he : PE X e (tE q W c)) : PS X (.Return (some e) pos) (tS q W (.ret c)) := by
  refine PS.dyn fun D σ H ⟨env, μ, ι, G, R, S, k⟩ => ⟨_, ps_ret he, ?_⟩
  have k' : CtS q.T W ι G (Co.lift env (evE q.P q.call c env μ) fun d μ => .ok (.rt d, env) μ) D := k
  exact ⟨env, μ, ι, G, R, S, k'.lift S fun d μ1 v ι1 G1 H1 _ g r rv k1 => k1 v ι1 G1 H1 (Grow.refl _ _) r rv⟩
theorem ss_retN {pos : Pos} : PS X (.Return none pos) (tS q W (.ret (.lit .non))) :=
  PS.dyn fun D σ H ⟨env, μ, ι, G, R, S, k⟩ => ⟨_, ps_retN, k .non ι G H (Grow.refl _ _) R .non⟩
theorem ss_ite {c : CE} {a b : CS} {e : Expr} {as bs : List Stmt} {pos : Pos} (he : PT X e (tT q W c)) (ha : PSs X as (tS q W a)) (hb : PSs X bs (tS q W b)) : PS X (.If e as bs pos) (tS q W (.ite c a b)) := by
  refine PS.dyn fun D σ H ⟨env, μ, ι, G, R, S, k⟩ => ⟨_, ps_if he ha hb, env, μ, ι, G, R, S, ?_⟩
  have k' : CtS q.T W ι G (Co.lift env (evE q.P q.call c env μ) fun d μ => match truth μ d with
    | some true => evS q.P q.call a env μ
    | some false => evS q.P q.call b env μ
    | none => .bad) D := k
  cases ee : evE q.P q.call c env μ with
  | bad => rw [ee] at k'; exact k'
  | ex y μ1 => rw [ee] at k'; exact fun cls dd ι' G' H g R rx => k' cls dd σ ι' G' H g R (S.mono g) rx
  | ok d μ1 =>
    rw [ee] at k'
    have k2 : CtS q.T W ι G (match truth μ1 d with
      | some true => evS q.P q.call a env μ1
      | some false => evS q.P q.call b env μ1
      | none => .bad) D := k'
    cases ht : truth μ1 d with
    | none => rw [ht] at k2; exact k2.elim
    | some t =>
      rw [ht] at k2
      unfold bOf
      rw [Res.bind_ok, ht]
      intro t' ι1 G1 H1 g r e
      have e : t' = t := e
      subst e
      cases t' with
      | true => exact ⟨env, μ1, ι1, G1, r, S.mono g, CtS.grow k2 g⟩
      | false => exact ⟨env, μ1, ι1, G1, r, S.mono g, CtS.grow k2 g⟩
theorem ss_brk {pos : Pos} : PS X (.Break pos) (tS q W .brk) := PS.dyn fun D σ H ⟨env, μ, ι, G, R, S, k⟩ => ⟨_, ps_break, k σ ι G H (Grow.refl _ _) R S⟩
theorem ss_cnt {pos : Pos} : PS X (.Continue pos) (tS q W .cnt) := PS.dyn fun D σ H ⟨env, μ, ι, G, R, S, k⟩ => ⟨_, ps_continue, k σ ι G H (Grow.refl _ _) R S⟩
theorem ss_pass {pos : Pos} : PS X (.Pass pos) (tS q W .skip) := PS.dyn fun D σ H ⟨env, μ, ι, G, R, S, k⟩ => ⟨_, ps_pass, k σ ι G H (Grow.refl _ _) R S⟩
/-- one after the other -/
theorem ss_seq {a b : CS} {st : Stmt} {rest : List Stmt} (ha : PS X st (tS q W a)) (hb : PSs X rest (tS q W b)) : PSs X (st :: rest) (tS q W (.seq a b)) := by
  refine PSs.dyn fun D σ H ⟨env, μ, ι, G, R, S, k⟩ => ⟨_, pss_cons ha hb, env, μ, ι, G, R, S, ?_⟩
  have k' : CtS q.T W ι G (match evS q.P q.call a env μ with
    | .ok (.nx, env') μ' => evS q.P q.call b env' μ'
    | .ok (.rt d, env') μ' => .ok (.rt d, env') μ'
    | .ok (.bk, env') μ' => .ok (.bk, env') μ'
    | .ok (.ct, env') μ' => .ok (.ct, env') μ'
    | .ex x μ' => .ex x μ'
    | .bad => .bad) D := k
  cases ee : evS q.P q.call a env μ with
  | bad => rw [ee] at k'; exact k'
  | ex y μ1 => rw [ee] at k'; exact k'
  | ok p μ1 =>
    obtain ⟨sg, env'⟩ := p
    rw [ee] at k'
    cases sg with
    | nx => exact fun σ' ι1 G1 H1 g r s => ⟨env', μ1, ι1, G1, r, s, CtS.grow k' g⟩
    | rt d => exact k'
    | bk => exact k'
    | ct => exact k'
theorem ss_one {a : CS} {st : Stmt} (ha : PS X st (tS q W a)) : PSs X [st] (tS q W a) := pss_one ha
theorem ss_skip : PSs X [] (tS q W .skip) := PSs.dyn fun D σ H ⟨env, μ, ι, G, R, S, k⟩ => ⟨_, pss_nil, k σ ι G H (Grow.refl _ _) R S⟩
/-- slots forgotten -/
theorem ss_clr {vs : List Nat} {b : CS} {sts : List Stmt} (hb : PSs X sts (tS q W b)) : PSs X sts (tS q W (.seq (.clr vs) b)) := by
  refine PSs.dyn fun D σ H ⟨env, μ, ι, G, R, S, k⟩ => ⟨_, hb, wipeE env vs, μ, ι, G, R, S.wipeE vs, k⟩
theorem ss_clr1 {vs : List Nat} : PSs X [] (tS q W (.clr vs)) := PSs.dyn fun D σ H ⟨env, μ, ι, G, R, S, k⟩ => ⟨_, pss_nil, k σ ι G H (Grow.refl _ _) R (S.wipeE vs)⟩
/-- a cell frozen -/
theorem frz_run {i : Nat} {pins : List (Addr × Obj)} {σ : L2.St} {H : Hp} {s : Shared} {env : Env} {μ : Store} {ι : List Addr} {G : Hp} (I : Inv X pins σ H s) (R : RelH q.T ι G μ H) (S : RelS q.T ι G env σ) {D : Ends} {f : Env → Store → RS}
    (k : CtS q.T W ι G (match evS q.P q.call (.frz i) env μ with
      | .ok (.nx, env') μ' => f env' μ'
      | _ => .bad) D) : ∃ (env' : Env) (μ' : Store) (G' H' : Hp), Inv X pins σ H' s ∧ RelH q.T ι G' μ' H' ∧ RelS q.T ι G' env' σ ∧ Grow ι ι G G' ∧ CtS q.T W ι G' (f env' μ') D := by
  have hev : evS q.P q.call (.frz i) env μ = (match getV env i with
    | some (.cell j) => match thawD j μ with
      | some (d, μ') => .ok (.nx, env.set i (some d)) μ'
      | none => .bad
    | some _ => .ok (.nx, env) μ
    | none => .bad) := rfl
  rw [hev] at k
  cases hv : getV env i with
  | none => rw [hv] at k; exact k.elim
  | some d =>
    rw [hv] at k
    obtain ⟨v, hs, hr⟩ := S.at_ i d (getV_some hv)
    cases d with
    | cell j =>
      simp only at k
      cases hr with
      | cell ha =>
        rename_i a
        cases hc : μ[j]? with
        | none => simp only [thawD, thaw, hc] at k; exact k.elim
        | some c => cases c with
          | dic t kvs =>
            simp only [thawD, hc] at k
            obtain ⟨u, hu, mu, fr⟩ := R.thawD hc ha
            obtain ⟨od, I2⟩ := I.lock hu mu
            obtain ⟨G', g, R', rd⟩ := fr od
            refine ⟨_, _, G', _, I2, R', ?_, g, CtS.grow k g⟩
            have S2 := (S.mono g).set rd i
            have e : σ.set i (some (V.ref a)) = σ := by
              apply List.ext_getElem?
              intro n
              by_cases hn : i = n
              · subst hn
                rw [List.getElem?_set_self (List.getElem?_eq_some_iff.mp hs).1, hs]
              · rw [List.getElem?_set_ne hn]
            rw [e] at S2
            exact S2
          | _ =>
            simp only [thawD, hc] at k
            cases ht : thaw j μ with
            | none => rw [ht] at k; exact k.elim
            | some p =>
              obtain ⟨d2, μ2⟩ := p
              rw [ht] at k
              simp only at k
              obtain ⟨G', g, R', rd⟩ := R.thaw ht
              refine ⟨_, _, G', _, I, R', ?_, g, CtS.grow k g⟩
              have S2 := (S.mono g).set (rd _ ha) i
              have e : σ.set i (some (V.ref a)) = σ := by
                apply List.ext_getElem?
                intro n
                by_cases hn : i = n
                · subst hn
                  rw [List.getElem?_set_self (List.getElem?_eq_some_iff.mp hs).1, hs]
                · rw [List.getElem?_set_ne hn]
              rw [e] at S2
              exact S2
    | _ => exact ⟨env, μ, G, H, I, R, S, Grow.refl _ _, k⟩
theorem ss_frz {i : Nat} {b : CS} {sts : List Stmt} (hb : PSs X sts (tS q W b)) : PSs X sts (tS q W (.seq (.frz i) b)) := by
  refine ⟨fun pins s σ H D I ⟨env, μ, ι, G, R, S, k⟩ => ?_⟩
  have k' : CtS q.T W ι G (match evS q.P q.call (.frz i) env μ with
    | .ok (.nx, env') μ' => evS q.P q.call b env' μ'
    | _ => .bad) D := by
    have k2 : CtS q.T W ι G (match evS q.P q.call (.frz i) env μ with
      | .ok (.nx, env') μ' => evS q.P q.call b env' μ'
      | .ok (.rt d, env') μ' => .ok (.rt d, env') μ'
      | .ok (.bk, env') μ' => .ok (.bk, env') μ'
      | .ok (.ct, env') μ' => .ok (.ct, env') μ'
      | .ex x μ' => .ex x μ'
      | .bad => .bad) D := k
    have hev : evS q.P q.call (.frz i) env μ = (match getV env i with
      | some (.cell j) => match thawD j μ with
        | some (d, μ') => .ok (.nx, env.set i (some d)) μ'
        | none => .bad
      | some _ => .ok (.nx, env) μ
      | none => .bad) := rfl
    rw [hev] at k2 ⊢
    split at k2 <;> rename_i e <;> split at e <;> first | (split at e <;> first | (cases e <;> exact k2) | cases e) | (cases e <;> exact k2) | cases e
  obtain ⟨env', μ', G', H', I', R', S', g, k3⟩ := frz_run I R S k'
  exact hb.run pins s σ H' D I' ⟨env', μ', ι, G', R', S', k3⟩
/-! ### the list in a field frozen -/
theorem RelH.redef {T : Nam} {ι : List Addr} {G H : Hp} {μ : Store} (r : RelH T ι G μ H) {j : Nat} {a : Addr} {c c' : Cell} (ha : ι[j]? = some a) (hj : μ[j]? = some c) (h : CellAt T ι G H a c') : RelH T ι G (μ.set j c') H := by
  refine ⟨r.fz, by rw [List.length_set]; exact r.len, r.nd, r.trk, r.tb, fun i b d e1 e2 => ?_⟩
  by_cases hi : j = i
  · subst hi
    rw [List.getElem?_set_self (List.getElem?_eq_some_iff.mp hj).1] at e2
    cases e2
    rw [ha] at e1
    cases e1
    exact h
  · rw [List.getElem?_set_ne hi] at e2
    exact r.cel i b d e1 e2
theorem RepF.swap {T : Nam} {ι : List Addr} {G : Hp} {k f : Nat} {b : Addr} {d : D} (hb : ι[k]? = some b) (rd : RepD T ι G (.ref b) d) : ∀ {vs : List (Str × V)} {fs : List (Nat × D)}, RepF T ι G vs fs → fget fs f = some (.cell k) → RepF T ι G vs (fput fs f d)
  | _, _, .nil, e => by cases e
  | _, _, .cons (f := g) h r, e => by
    unfold fget at e
    unfold fput
    by_cases q : g = f
    · subst q
      rw [if_pos rfl] at e ⊢
      cases e
      cases h with
      | cell h' =>
        rw [hb] at h'
        cases h'
        exact .cons rd r
    · rw [if_neg q] at e ⊢
      exact .cons h (RepF.swap hb rd r e)
theorem ss_frzf {i f : Nat} {b : CS} {sts : List Stmt} (hb : PSs X sts (tS q W b)) : PSs X sts (tS q W (.seq (.frzf i f) b)) := by
  refine PSs.dyn fun D σ H ⟨env, μ, ι, G, R, S, k⟩ => ⟨_, hb, ?_⟩
  have k' : CtS q.T W ι G (match (match frzF i f env μ with
      | some μ' => (.ok (.nx, env) μ' : RS)
      | none => .bad) with
    | .ok (.nx, env') μ' => evS q.P q.call b env' μ'
    | .ok (.rt d, env') μ' => .ok (.rt d, env') μ'
    | .ok (.bk, env') μ' => .ok (.bk, env') μ'
    | .ok (.ct, env') μ' => .ok (.ct, env') μ'
    | .ex x μ' => .ex x μ'
    | .bad => .bad) D := k
  cases hf : frzF i f env μ with
  | none => rw [hf] at k'; exact k'.elim
  | some μ' =>
    rw [hf] at k'
    simp only at k'
    unfold frzF at hf
    split at hf
    · rename_i j hv
      split at hf
      · rename_i c fs hc
        split at hf
        · rename_i kk hg
          split at hf
          · rename_i xs hk
            split at hf
            · cases hf
            · rename_i hne
              cases hf
              obtain ⟨v, hs, hr⟩ := S.at_ i _ (getV_some hv)
              cases hr with
              | cell ha =>
                rename_i a
                have ht : thaw kk μ = some (.lst xs, μ.set kk .dead) := by unfold thaw; rw [hk]
                obtain ⟨G', g, R', rd⟩ := R.thaw ht
                obtain ⟨bb, hbb⟩ := R.addr hk
                have hj : (μ.set kk .dead)[j]? = some (.ins c fs) := by rw [List.getElem?_set_ne hne]; exact hc
                cases R'.cel j a _ ha hj with
                | ins h1 h2 h3 => exact ⟨env, _, ι, G', R'.redef ha hj (.ins h1 h2 (RepF.swap hbb (rd _ hbb) h3 hg)), S.mono g, CtS.grow k' g⟩
          · cases hf
        · cases hf
      · cases hf
    · cases hf
end Co

set_option linter.all false
set_option maxRecDepth 100000
set_option Elab.async false
/-! Co23: loops. -/
namespace Co
open PySem L2
variable {q : Cq} {sc : Scope} {N : List Str} {W : WX} {X : Cx}
/-- behind a turn -/
theorem turn_end {T : Nam} {ι ι2 : List Addr} {G G2 H0 H : Hp} {μ0 μ2 : Store} {env2 : Env} {σ : L2.St} {clr : List Nat} {k : Env → Store → RS} {Z : Ends} (R0 : RelH T ι G μ0 H0) (g : Grow ι ι2 G G2) (R : RelH T ι2 G2 μ2 H) (S : RelS T ι2 G2 env2 σ)
    (c : CtS T W ι G (turnEnd μ0.length μ0 clr env2 μ2 k) Z) : ∃ (ι3 : List Addr) (μ3 : Store) (env3 : Env), Grow ι ι3 G G2 ∧ RelH T ι3 G2 μ3 H ∧ RelS T ι3 G2 env3 σ ∧ CtS T W ι3 G2 (k env3 μ3) Z := by
  unfold turnEnd at c
  simp only at c
  have S1 := S.wipeE clr
  split at c
  · rename_i h
    rw [Bool.and_eq_true] at h
    obtain ⟨g2, R2⟩ := R0.leave g R h.2
    exact ⟨_, _, _, g2, R2, S1.back h.1, CtS.grow c g2⟩
  · exact ⟨_, _, _, g, R, S1, CtS.grow c g⟩
theorem for_turns {k : ITK} {b : CS} {tg : TGT} {clr : List Nat} {env0 : Env} {ds xs : List D} {μ1 : Store} {σ0 : L2.St} {ι : List Addr} {G H1 : Hp} {J : It} {Z : Ends} (R : RelH q.T ι G μ1 H1) (S : RelS q.T ι G env0 σ0)
    (hJ : ItD q.T J ι G k ds xs (tagOf μ1 ds)) (hc : CtS q.T W ι G (forL (evS q.P q.call b) tg (stayB μ1 k ds xs) clr xs env0 μ1) Z) :
    ∃ W' : Nat → Nat → L2.St → Hp → Prop, (∃ m, W' 0 m σ0 H1) ∧ ∀ i m σ H, W' i m σ H →
      (J.stop i H ∧ Z.nx σ H) ∨ (J.go i H ∧ ∃ N : L2.St → Hp → Prop, (∀ σ' H', N σ' H' → ∃ m', m' < m ∧ W' (i + 1) m' σ' H') ∧ ∀ x H', J.yld i H x H' → tG q.T tg x σ H' fun σ2 H2 => tS q W b { Z with nx := N, ct := N, bk := Z.nx } σ2 H2) := by
  refine ⟨fun i m σ H => m = xs.length - i ∧ i ≤ xs.length ∧ ∃ (ι' : List Addr) (G' : Hp) (μ' : Store) (env : Env), Grow ι ι' G G' ∧ RelH q.T ι' G' μ' H ∧ RelS q.T ι' G' env σ ∧
    CtS q.T W ι' G' (forL (evS q.P q.call b) tg (stayB μ1 k ds xs) clr (xs.drop i) env μ') Z, ⟨_, rfl, Nat.zero_le _, _, _, _, _, Grow.refl _ _, R, S, hc⟩, ?_⟩
  rintro i m σ H ⟨rfl, hle, ι', G', μ', env, gJ, R', S', cc⟩
  by_cases hlt : i < xs.length
  · have hd : xs.drop i = xs[i] :: xs.drop (i + 1) := List.drop_eq_getElem_cons hlt
    rw [hd] at cc
    unfold forL at cc
    split at cc
    · rename_i hst
      unfold stayB at hst
      rw [Bool.and_eq_true, decide_eq_true_eq, beq_iff_eq] at hst
      refine .inr ⟨hJ.go gJ R' hst.1 hst.2 hlt, fun σ' H' => xs.length - (i + 1) = xs.length - (i + 1) ∧ i + 1 ≤ xs.length ∧ ∃ (ι' : List Addr) (G' : Hp) (μ' : Store) (env : Env), Grow ι ι' G G' ∧ RelH q.T ι' G' μ' H' ∧ RelS q.T ι' G' env σ' ∧
        CtS q.T W ι' G' (forL (evS q.P q.call b) tg (stayB μ1 k ds xs) clr (xs.drop (i + 1)) env μ') Z, fun σ' H' h => ⟨_, by omega, h⟩, fun v H' hy => ?_⟩
      obtain ⟨d, G2, hd2, g2, R2, rd⟩ := hJ.yld gJ R' hst.1 hst.2 hlt hy
      rw [List.getElem?_eq_getElem hlt] at hd2
      cases hd2
      split at cc
      · exact cc.elim
      · rename_i env' ha
        refine ⟨ι', G2, μ', env, env', _, R2, S'.mono g2, rd, ha, fun σ' S2 _ _ => ⟨env', μ', ι', G2, R2, S2, ?_⟩⟩
        have cc := CtS.grow cc g2
        have next : ∀ (env2 : Env) (μ2 : Store), CtS q.T W ι' G2 (turnEnd μ'.length μ' clr env2 μ2 (forL (evS q.P q.call b) tg (stayB μ1 k ds xs) clr (xs.drop (i + 1)))) Z → ∀ (σ2 : L2.St) (ι2 : List Addr) (G3 H3 : Hp), Grow ι' ι2 G2 G3 → RelH q.T ι2 G3 μ2 H3 → RelS q.T ι2 G3 env2 σ2 →
            xs.length - (i + 1) = xs.length - (i + 1) ∧ i + 1 ≤ xs.length ∧ ∃ (ι' : List Addr) (G' : Hp) (μ' : Store) (env : Env), Grow ι ι' G G' ∧ RelH q.T ι' G' μ' H3 ∧ RelS q.T ι' G' env σ2 ∧
              CtS q.T W ι' G' (forL (evS q.P q.call b) tg (stayB μ1 k ds xs) clr (xs.drop (i + 1)) env μ') Z := fun env2 μ2 c σ2 ι2 G3 H3 g3 R3 S3 => by
          obtain ⟨ι4, μ4, env4, g4, R4, S4, c4⟩ := turn_end (H0 := H') R2 g3 R3 S3 c
          exact ⟨rfl, hlt, ι4, _, μ4, env4, (gJ.trans g2).trans g4, R4, S4, c4⟩
        cases eb : evS q.P q.call b env' μ' with
        | bad => rw [eb] at cc; exact cc
        | ex y μ2 => rw [eb] at cc; exact cc
        | ok p μ2 =>
          obtain ⟨sg, env2⟩ := p
          rw [eb] at cc
          cases sg with
          | nx => exact next env2 μ2 cc
          | ct => exact next env2 μ2 cc
          | bk => exact cc
          | rt d => exact cc
    · exact cc.elim
  · have e : i = xs.length := by omega
    subst e
    rw [List.drop_length] at cc
    unfold forL at cc
    split at cc
    · rename_i hst
      unfold stayB at hst
      rw [Bool.and_eq_true, decide_eq_true_eq, beq_iff_eq] at hst
      exact .inl ⟨hJ.stop gJ R' hst.1 hst.2 (Nat.le_refl _), cc σ ι' G' H (Grow.refl _ _) R' S'⟩
    · exact cc.elim
theorem for_core {k : ITK} {it : CE} {b : CS} {tg : TGT} {clr : List Nat} {env : Env} {μ : Store} {σ : L2.St} {ι : List Addr} {G H : Hp} {Z : Ends} (R : RelH q.T ι G μ H) (S : RelS q.T ι G env σ)
    (hc : match evA q.P q.call it env μ with
      | .ok ds μ1 => walkedC μ1 k ds = none ∧ CtS q.T W ι G (forS (evS q.P q.call b) tg k ds clr env μ1) Z
      | .ex y μ1 => CtS q.T W ι G (.ex (y, env) μ1) Z
      | .bad => False) : tFor (tI q W k it) (tG q.T tg) (tS q W b) Z σ H := by
  refine ⟨env, μ, ι, G, R, S, ?_⟩
  cases ea : evA q.P q.call it env μ with
  | bad => rw [ea] at hc; exact hc
  | ex y μ1 => rw [ea] at hc; exact fun cls dd ι' G' H g R rx => hc cls dd σ ι' G' H g R (S.mono g) rx
  | ok ds μ1 =>
    rw [ea] at hc
    obtain ⟨hw, hc⟩ := hc
    unfold forS at hc
    cases hx : itemsOf μ1 k ds with
    | none => rw [hx] at hc; exact hc.elim
    | some xs =>
      rw [hx] at hc
      simp only at hc
      exact ⟨xs, hx, hw, fun ι1 G1 H1 J g1 R1 hJ => for_turns R1 (S.mono g1) hJ (CtS.grow hc g1)⟩
theorem ss_for (s : SOk q sc N W X) {k : ITK} {it : CE} {b : CS} {tg : TGT} {clr : List Nat} {tge iter : Expr} {body : List Stmt} {pos : Pos} (hi : PI X tge iter (tI q W k it)) (hp : plE iter = true) (hG : okG N sc true tg tge = true) (hb : PSs X body (tS q W b)) :
    PS X (.For tge iter body [] pos) (tS q W (.for k it tg b clr)) := by
  have rule : PS X (.For tge iter body [] pos) (tFor (tI q W k it) (tG q.T tg) (tS q W b)) := ps_for s.po s.x.calm hi (pg_ok s.g hG) hb (pl_fold hp X.env)
  refine PS.dyn fun Z σ H ⟨env, μ, ι, G, R, S, hc⟩ => ?_
  have c' : CtS q.T W ι G (match evA q.P q.call it env μ with
    | .ok ds μ => match walkedC μ k ds with
      | none => forS (evS q.P q.call b) tg k ds clr env μ
      | some w => if pathE it then unlkS w (forS (evS q.P q.call b) tg k ds clr env (lockC w μ)) else .bad
    | .ex x μ => .ex (x, env) μ
    | .bad => .bad) Z := hc
  cases ea : evA q.P q.call it env μ with
  | bad => rw [ea] at c'; exact c'.elim
  | ex y μ1 =>
    rw [ea] at c'
    exact ⟨_, rule, for_core (clr := clr) R S (by rw [ea]; exact c')⟩
  | ok ds μ1 =>
    rw [ea] at c'
    simp only at c'
    cases hw : walkedC μ1 k ds with
    | none =>
      rw [hw] at c'
      exact ⟨_, rule, for_core (clr := clr) R S (by rw [ea]; exact ⟨hw, c'⟩)⟩
    | some w =>
      rw [hw] at c'
      simp only at c'
      split at c'
      · rename_i hp
        obtain ⟨rfl, hd⟩ := walked_at hw
        obtain rfl := (path_same hp).2 _ _ ea
        have hl := ((path_lock hd hp).2 _ _ ea).2
        obtain ⟨a, ha⟩ := R.addr hd
        obtain ⟨u, hu, mu, hn, lk⟩ := R.lock hd ha
        refine ⟨_, ps_lock rule, a, u, hu, mu, fun od => ?_⟩
        obtain ⟨gl, Rl⟩ := lk od
        refine for_core (clr := clr) Rl (S.mono gl) ?_
        have hl' : evA q.P q.call it env (lockC w μ1) = .ok [.cell w.1] (lockC w μ1) := hl
        have : (μ1.set w.1 (.ldic w.2.1 w.2.2)) = lockC w μ1 := rfl
        rw [this, hl']
        refine ⟨walked_lock hw, ?_⟩
        cases hr : forS (evS q.P q.call b) tg k [.cell w.1] clr env (lockC w μ1) with
        | bad => rw [hr] at c'; exact c'
        | ex y μ2 => rw [hr] at c'; exact c'.elim
        | ok p μ2 =>
          obtain ⟨sg, env2⟩ := p
          rw [hr] at c'
          cases sg with
          | nx =>
            intro σ2 ι2 G2 H2 g2 R2 S2
            obtain ⟨h1, h2, h3⟩ := R.unlock hd ha hu g2 R2
            exact ⟨h1, c' σ2 ι2 _ _ h2 h3 (S2.outk (g2.ex _ _ upd_same))⟩
          | bk =>
            intro σ2 ι2 G2 H2 g2 R2 S2
            obtain ⟨h1, h2, h3⟩ := R.unlock hd ha hu g2 R2
            exact ⟨h1, c' σ2 ι2 _ _ h2 h3 (S2.outk (g2.ex _ _ upd_same))⟩
          | ct =>
            intro σ2 ι2 G2 H2 g2 R2 S2
            obtain ⟨h1, h2, h3⟩ := R.unlock hd ha hu g2 R2
            exact ⟨h1, c' σ2 ι2 _ _ h2 h3 (S2.outk (g2.ex _ _ upd_same))⟩
          | rt d =>
            intro v ι2 G2 H2 g2 R2 rv
            obtain ⟨h1, h2, h3⟩ := R.unlock hd ha hu g2 R2
            exact ⟨h1, c' v ι2 _ _ h2 h3 (rv.outk (g2.ex _ _ upd_same))⟩
      · exact c'.elim
theorem ss_while (s : SOk q sc N W X) {c : CE} {b : CS} {clr : List Nat} {e : Expr} {body : List Stmt} {pos : Pos} (he : PT X e (tT q W c)) (hb : PSs X body (tS q W b)) : PS X (.While e body [] pos) (tS q W (.while c b clr)) := by
  refine PS.dyn fun Z σ0 H0 ⟨env0, μ0, ι0, G0, R0, S0, hc⟩ => ⟨_, ps_while s.po he hb, ?_⟩
  have hc' : CtS q.T W ι0 G0 (whileL (evE q.P q.call c) (evS q.P q.call b) clr q.P.fuel env0 μ0) Z := hc
  refine ⟨fun m σ H => ∃ (ι : List Addr) (G : Hp) (μ : Store) (env : Env), RelH q.T ι G μ H ∧ RelS q.T ι G env σ ∧ CtS q.T W ι G (whileL (evE q.P q.call c) (evS q.P q.call b) clr m env μ) Z, ⟨q.P.fuel, ι0, G0, μ0, env0, R0, S0, hc'⟩, ?_⟩
  rintro m σ H ⟨ι, G, μ, env, R, S, k⟩
  cases m with
  | zero => exact k.elim
  | succ m =>
    have k' : CtS q.T W ι G (Co.lift env (evE q.P q.call c env μ) fun d μ1 => match truth μ1 d with
      | none => .bad
      | some false => .ok (.nx, env) μ1
      | some true => match evS q.P q.call b env μ1 with
        | .ok (.nx, env2) μ2 => turnEnd μ.length μ clr env2 μ2 (whileL (evE q.P q.call c) (evS q.P q.call b) clr m)
        | .ok (.ct, env2) μ2 => turnEnd μ.length μ clr env2 μ2 (whileL (evE q.P q.call c) (evS q.P q.call b) clr m)
        | .ok (.bk, env2) μ2 => .ok (.nx, env2) μ2
        | .ok (.rt d, env2) μ2 => .ok (.rt d, env2) μ2
        | .ex x μ2 => .ex x μ2
        | .bad => .bad) Z := k
    refine ⟨env, μ, ι, G, R, S, ?_⟩
    cases ee : evE q.P q.call c env μ with
    | bad => rw [ee] at k'; exact k'
    | ex y μ1 => rw [ee] at k'; exact fun cls dd ι' G' H g R rx => k' cls dd σ ι' G' H g R (S.mono g) rx
    | ok d μ1 =>
      rw [ee] at k'
      rw [lift_ok] at k'
      unfold bOf
      rw [Res.bind_ok]
      cases ht : truth μ1 d with
      | none => rw [ht] at k'; exact k'.elim
      | some t =>
        rw [ht] at k'
        intro t' ι1 G1 H1 g R1 e
        have e : t' = t := e
        subst e
        cases t' with
        | false => exact k' σ ι1 G1 H1 g R1 (S.mono g)
        | true =>
          refine ⟨fun σ' H' => ∃ (ι : List Addr) (G : Hp) (μ : Store) (env : Env), RelH q.T ι G μ H' ∧ RelS q.T ι G env σ' ∧ CtS q.T W ι G (whileL (evE q.P q.call c) (evS q.P q.call b) clr m env μ) Z, fun σ' H' h => ⟨m, Nat.lt_succ_self m, h⟩, env, μ1, ι1, G1, R1, S.mono g, ?_⟩
          simp only at k'
          have next : ∀ (env2 : Env) (μ2 : Store), CtS q.T W ι G (turnEnd μ.length μ clr env2 μ2 (whileL (evE q.P q.call c) (evS q.P q.call b) clr m)) Z → ∀ (σ2 : L2.St) (ι2 : List Addr) (G3 H3 : Hp), Grow ι1 ι2 G1 G3 → RelH q.T ι2 G3 μ2 H3 → RelS q.T ι2 G3 env2 σ2 →
              ∃ (ι : List Addr) (G : Hp) (μ : Store) (env : Env), RelH q.T ι G μ H3 ∧ RelS q.T ι G env σ2 ∧ CtS q.T W ι G (whileL (evE q.P q.call c) (evS q.P q.call b) clr m env μ) Z := fun env2 μ2 cx σ2 ι2 G3 H3 g3 R3 S3 => by
            obtain ⟨ι4, μ4, env4, g4, R4, S4, c4⟩ := turn_end (H0 := H) R (g.trans g3) R3 S3 cx
            exact ⟨ι4, _, μ4, env4, R4, S4, c4⟩
          cases eb : evS q.P q.call b env μ1 with
          | bad => rw [eb] at k'; exact k'
          | ex y μ2 =>
            rw [eb] at k'
            exact fun cls dd σ' ι' G' H' g2 => k' cls dd σ' ι' G' H' (g.trans g2)
          | ok p μ2 =>
            obtain ⟨sg, env2⟩ := p
            rw [eb] at k'
            cases sg with
            | nx => exact next env2 μ2 k'
            | ct => exact next env2 μ2 k'
            | bk => exact fun σ' ι' G' H' g2 => k' σ' ι' G' H' (g.trans g2)
            | rt d => exact fun v ι' G' H' g2 => k' v ι' G' H' (g.trans g2)
end Co

set_option linter.all false
set_option maxRecDepth 100000
set_option Elab.async false
/-! Co24: stores into fields, lists and dicts. -/
namespace Co
open PySem L2
variable {q : Cq} {sc : Scope} {N : List Str} {W : WX} {X : Cx}
theorem RepF.put {T : Nam} {ι : List Addr} {G : Hp} (inj : ∀ f g, T.fN f = T.fN g → f = g) {f : Nat} {w : V} {x : D} (hx : RepD T ι G w x) : ∀ {v : List (Str × V)} {d : List (Nat × D)}, RepF T ι G v d → RepF T ι G (putF (T.fN f) w v) (fput d f x)
  | _, _, .nil => .cons hx .nil
  | _, _, .cons (f := g) h r => by
    unfold putF fput
    by_cases e : g = f
    · subst e
      rw [if_pos rfl, if_pos rfl]
      exact .cons hx r
    · rw [if_neg fun z => e (inj _ _ z), if_neg e]
      exact .cons h (RepF.put inj hx r)
theorem ss_sfld (x : XOk q sc N W X) {o c : CE} {f : Nat} {oe e : Expr} {p2 pos : Pos} (hp : plE e = true) (hcmp : isComp e = false) (ho : PE X oe (tE q W o)) (he : PE X e (tE q W c)) : PS X (.Assign [.Attribute oe (q.T.fN f) p2] e pos) (tS q W (.sfld o f c)) := by
  refine PS.dyn fun Z σ H ⟨env, μ, ι, G, R, S, k⟩ => ⟨_, ps_fld ho he (pl_swap hp hcmp _ _ _), env, μ, ι, G, R, S, ?_⟩
  have k' : CtS q.T W ι G (Co.lift env (evE q.P q.call c env μ) fun v μ => Co.lift env (evE q.P q.call o env μ) fun d μ => match setFld q.P.fok μ d f v with
    | some μ' => .ok (.nx, env) μ'
    | none => .bad) Z := k
  refine k'.lift S fun d μ1 v ι1 G1 H1 _ g r rv k1 => ⟨env, μ1, ι1, G1, r, S.mono g, k1.lift (S.mono g) fun d2 μ2 v2 ι2 G2 H2 _ g2 r2 rv2 k2 => ?_⟩
  cases d2 with
  | cell i => cases rv2 with
    | cell ha =>
      rename_i a
      cases hc : μ2[i]? with
      | none => simp only [setFld, hc] at k2; exact k2.elim
      | some cl => cases cl with
        | ins kc fs =>
          simp only [setFld, hc] at k2
          cases hb : fokB q.P.fok kc f && decide (fs.length < 900) with
          | false => rw [hb] at k2; exact k2.elim
          | true =>
            rw [hb] at k2
            rw [Bool.and_eq_true, decide_eq_true_eq] at hb
            cases r2.cel i a _ ha hc with
            | ins h1 h2 h3 =>
              obtain ⟨e1, e2⟩ := x.lk.at_ kc f hb.1
              have hl := h3.length
              refine ⟨a, _, _, _, rfl, h2, by rw [x.eK]; exact e1, by rw [x.eK]; exact e2, by omega, ?_⟩
              exact k2 σ ι2 G2 _ (Grow.refl _ _) (r2.write ha hc rfl (.ins h1 upd_same (h3.put x.lk.inj (rv.mono g2)))) ((S.mono g).mono g2)
        | _ => simp only [setFld, hc] at k2; exact k2.elim
  | _ => exact k2.elim
theorem ss_sidx (x : XOk q sc N W X) {o i c : CE} {oe ie e : Expr} {p2 pos : Pos} (hp : plE e = true) (hcmp : isComp e = false) (hpi : plE ie = true) (ho : PE X oe (tE q W o)) (hi : PE X ie (tE q W i)) (he : PE X e (tE q W c)) : PS X (.Assign [.Subscript oe ie p2] e pos) (tS q W (.sidx o i c)) := by
  have asub : ∀ v, assign (.Subscript oe ie p2) X.env v = (do
      let ov ← holding [v] (eval oe X.env)
      let iv ← holding [v, ov] (eval ie X.env)
      standAt p2
      holding [v, ov, iv] (setItem ov iv v)
      release [v, ov, iv] []) := fun v => by
    cases ie <;> first | rfl | exact Bool.noConfusion hpi
  have hs : swapsWithSole [.Subscript oe ie p2] e pos.line X.env = pure false := by
    unfold swapsWithSole
    exact pl_swap hp hcmp _ _ _
  have ruleL : PS X (.Assign [.Subscript oe ie p2] e pos) (tAsg (tE q W c) (gSub (tE q W o) (tE q W i) rSetL)) := ps_asg he (pg_sub ho hi set_list asub) hs
  have ruleD : PS X (.Assign [.Subscript oe ie p2] e pos) (sDPut (tE q W o) (tE q W i) (tE q W c)) := ps_dput x.hu1 ho hi he (pl_swap hp hcmp _ _ _)
  refine PS.dyn fun Z σ H ⟨env, μ, ι, G, R, S, k⟩ => ?_
  have k' : CtS q.T W ι G (Co.lift env (evE q.P q.call c env μ) fun v μ => Co.lift env (evE q.P q.call o env μ) fun d μ => Co.lift env (evE q.P q.call i env μ) fun kx μ => match setIx μ d kx v with
    | some μ' => .ok (.nx, env) μ'
    | none => .bad) Z := k
  -- which rule: by what stands there
  have dict : (∀ v μ1 d μ2 kx μ3, evE q.P q.call c env μ = .ok v μ1 → evE q.P q.call o env μ1 = .ok d μ2 → evE q.P q.call i env μ2 = .ok kx μ3 → ∃ ci t kvs, d = .cell ci ∧ μ3[ci]? = some (.dic t kvs)) → sDPut (tE q W o) (tE q W i) (tE q W c) Z σ H := fun hd =>
    ⟨env, μ, ι, G, R, S, k'.lift S fun v μ1 vv ι1 G1 H1 e1 g1 r1 rv k1 => ⟨env, μ1, ι1, G1, r1, S.mono g1, k1.lift (S.mono g1) fun d μ2 vd ι2 G2 H2 e2 g2 r2 rd k2 => ⟨env, μ2, ι2, G2, r2, (S.mono g1).mono g2, k2.lift ((S.mono g1).mono g2) fun kx μ3 vk ι3 G3 H3 e3 g3 r3 rk k3 => by
      obtain ⟨ci, t, kvs, rfl, hc⟩ := hd _ _ _ _ _ _ e1 e2 e3
      cases rd with
      | cell ha =>
        rename_i a
        have ha3 := g3.ix _ _ ha
        simp only [setIx, hc] at k3
        cases hb : keyB t kx && sz (kvs.length + 1) with
        | false => rw [hb] at k3; exact k3.elim
        | true =>
          rw [hb] at k3
          rw [Bool.and_eq_true] at hb
          have hz := flip_len hb.2
          cases r3.cel ci a _ ha3 hc with
          | dicK h1 h2 h3 =>
            obtain ⟨kk, e1, e2, hkk⟩ := key_of rk hb.1
            subst e1
            subst e2
            have hl := h3.length
            refine ⟨a, _, rfl, .inl ⟨_, kk, h2, rfl, by omega, rfl⟩, k3 σ ι3 G3 _ (Grow.refl _ _) (r3.write ha3 hc rfl (.dicK h1 upd_same (h3.put kk hkk (rv.mono (g2.trans g3))))) (((S.mono g1).mono g2).mono g3)⟩
          | dicT h1 h2 h3 =>
            have hl := h3.length
            have hkt : ∃ ks, kx = .tup ks ∧ ks.all D.isKey = true := by
              cases kx with
              | tup ks => exact ⟨ks, rfl, hb.1⟩
              | _ => exact absurd hb.1 (by simp [keyB])
            obtain ⟨ks, rfl, hk⟩ := hkt
            cases rk with
            | tup et lt =>
              obtain ⟨kk, e1, e2, hkk⟩ := keys_of lt hk
              subst e1
              subst e2
              refine ⟨a, _, rfl, .inr ⟨_, kk, _, h2, rfl, r3.fz.tup et, by omega, rfl⟩, k3 σ ι3 G3 _ (Grow.refl _ _) (r3.write ha3 hc rfl (.dicT h1 upd_same (h3.put kk hkk (rv.mono (g2.trans g3))))) (((S.mono g1).mono g2).mono g3)⟩⟩⟩⟩
  have list : (∀ v μ1 d μ2 kx μ3, evE q.P q.call c env μ = .ok v μ1 → evE q.P q.call o env μ1 = .ok d μ2 → evE q.P q.call i env μ2 = .ok kx μ3 → ∃ ci xs, d = .cell ci ∧ μ3[ci]? = some (.lst xs)) → tAsg (tE q W c) (gSub (tE q W o) (tE q W i) rSetL) Z σ H := fun hd =>
    ⟨env, μ, ι, G, R, S, k'.lift S fun v μ1 vv ι1 G1 H1 e1 g1 r1 rv k1 => ⟨env, μ1, ι1, G1, r1, S.mono g1, k1.lift (S.mono g1) fun d μ2 vd ι2 G2 H2 e2 g2 r2 rd k2 => ⟨env, μ2, ι2, G2, r2, (S.mono g1).mono g2, k2.lift ((S.mono g1).mono g2) fun kx μ3 vk ι3 G3 H3 e3 g3 r3 rk k3 => by
      obtain ⟨ci, xs, rfl, hc⟩ := hd _ _ _ _ _ _ e1 e2 e3
      cases rd with
      | cell ha =>
        rename_i a
        have ha3 := g3.ix _ _ ha
        simp only [setIx, hc] at k3
        cases rk with
        | int j =>
          simp only at k3
          cases hj : ixN xs.length j with
          | none => rw [hj] at k3; exact k3.elim
          | some n =>
            rw [hj] at k3
            cases r3.cel ci a _ ha3 hc with
            | lst h1 h2 h3 =>
              refine ⟨a, _, j, n, rfl, rfl, h2, by rw [h3.length]; exact hj, k3 σ ι3 G3 _ (Grow.refl _ _) (r3.write ha3 hc rfl (.lst h1 upd_same (h3.set (rv.mono (g2.trans g3)) n))) (((S.mono g1).mono g2).mono g3)⟩
        | _ => exact k3.elim⟩⟩⟩
  cases e1 : evE q.P q.call c env μ with
  | bad => rw [e1] at k'; exact k'.elim
  | ex y μ1 => exact ⟨_, ruleD, dict fun v μ1 d μ2 kx μ3 z => by rw [e1] at z; cases z⟩
  | ok v μ1 => cases e2 : evE q.P q.call o env μ1 with
    | bad => rw [e1, lift_ok, e2] at k'; exact k'.elim
    | ex y μ2 => exact ⟨_, ruleD, dict fun v μ1 d μ2 kx μ3 z z2 => by rw [e1] at z; cases z; rw [e2] at z2; cases z2⟩
    | ok d μ2 => cases e3 : evE q.P q.call i env μ2 with
      | bad => rw [e1, lift_ok, e2, lift_ok, e3] at k'; exact k'.elim
      | ex y μ2 => exact ⟨_, ruleD, dict fun v μ1 d μ2 kx μ3 z z2 z3 => by rw [e1] at z; cases z; rw [e2] at z2; cases z2; rw [e3] at z3; cases z3⟩
      | ok kx μ3 =>
        rw [e1, lift_ok, e2, lift_ok, e3, lift_ok] at k'
        cases d with
        | cell ci =>
          cases hc : μ3[ci]? with
          | none => simp only [setIx, hc] at k'; exact k'.elim
          | some cl => cases cl with
            | dic t kvs => exact ⟨_, ruleD, dict fun v μ1 d μ2 kx μ3 z z2 z3 => by rw [e1] at z; cases z; rw [e2] at z2; cases z2; rw [e3] at z3; cases z3; exact ⟨ci, t, kvs, rfl, hc⟩⟩
            | lst xs => exact ⟨_, ruleL, list fun v μ1 d μ2 kx μ3 z z2 z3 => by rw [e1] at z; cases z; rw [e2] at z2; cases z2; rw [e3] at z3; cases z3; exact ⟨ci, xs, rfl, hc⟩⟩
            | _ => simp only [setIx, hc] at k'; exact k'.elim
        | _ => exact k'.elim
def augOp : BinO → Option (Operator × (Int → Int → Int))
  | .add => some (.Add, fun i j => i + j)
  | .sub => some (.Sub, fun i j => i - j)
  | _ => none
theorem ss_aug (s : SOk q sc N W X) {i : Nat} {o : BinO} {c : CE} {y : Str} {op : Operator} {f : Int → Int → Int} {e : Expr} {p2 pos : Pos} (ho : augOp o = some (op, f)) (hN : N[i]? = some y) (hl : sc.names.lookup y = some .local ∨ sc.names.lookup y = some .cell) (he : PE X e (tE q W c)) :
    PS X (.AugAssign (.Name y p2) op e pos) (tS q W (.aug i o c)) := by
  have rule : ∀ ti, PIp X op ti → PS X (.AugAssign (.Name y p2) op e pos) (tAug i (tE q W c) ti) := fun ti h => ps_aug (by rw [s.x.eN]; exact s.x.nd) (by rw [s.x.eN]; exact hN) (by unfold L2.Loc; rw [s.x.eS]; exact hl) he h (.inl (s.fnl y))
  have hop : PIp X op (ipI f) ∧ ∀ μ a b, binS μ o (.int a) (.int b) = .ok (.int (f a b)) μ := by
    cases o <;> first | cases ho | skip
    · exact ⟨ip_add, fun _ _ _ => rfl⟩
    · exact ⟨ip_sub, fun _ _ _ => rfl⟩
  refine PS.dyn fun Z σ H ⟨env, μ, ι, G, R, S, k⟩ => ⟨_, rule _ hop.1, ?_⟩
  have k' : CtS q.T W ι G (match getV env i with
    | none => .bad
    | some x => Co.lift env (evE q.P q.call c env μ) fun y μ => match x, y with
      | .int _, .int _ => Co.lift env (binS μ o x y) fun z μ => .ok (.nx, env.set i (some z)) μ
      | _, _ => .bad) Z := k
  cases hv : getV env i with
  | none => rw [hv] at k'; exact k'.elim
  | some d =>
    rw [hv] at k'
    obtain ⟨v, hs, hr⟩ := S.at_ i d (getV_some hv)
    refine ⟨v, hs, env, μ, ι, G, R, S, k'.lift S fun d2 μ1 v2 ι1 G1 H1 _ g r rv k1 => ?_⟩
    cases hr with
    | int a => cases rv with
      | int b =>
        simp only at k1
        rw [hop.2, lift_ok] at k1
        exact ⟨a, b, rfl, rfl, k1 _ ι1 G1 H1 (Grow.refl _ _) r ((S.mono g).set (.int (f a b)) i)⟩
      | _ => exact k1.elim
    | _ => cases rv <;> exact k1.elim
end Co

set_option linter.all false
set_option maxRecDepth 100000
set_option Elab.async false
/-! Co25: what is checked of a statement; every statement that passes is told by the evaluator. -/
namespace Co
open PySem L2
variable {q : Cq} {N : List Str}
/-! ### try, where nothing is raised within -/
theorem SOk.nox {sc : Scope} {W : WX} {X : Cx} (s : SOk q sc N W X) : SOk q sc N W0 X.nox where
  x := { eK := s.x.eK, eS := s.x.eS, eN := s.x.eN, nd := s.x.nd, calm := s.x.calm, room := s.x.room, tk := takes0, lk := s.x.lk, fns := fun f hl h => ⟨(s.x.fns f hl h).ex⟩, lams := s.x.lams, lmk := fun ql h => let m := s.x.lmk ql h; ⟨m.fn, m.st, m.fr, m.qu, m.co⟩ }
  po := PassesOwn.never
  fnl := s.fnl
theorem ss_try {W : WX} {X : Cx} {b h els : CS} {cs : List Nat} {nm : Option Nat} {body orelse : List Stmt} {h₀ : ExceptHandler} {hs : List ExceptHandler} {pos : Pos} (hb : PSs X.nox body (tS q W0 b)) (ho : PSs X orelse (tS q W els)) :
    PS X (.Try body (h₀ :: hs) orelse [] pos) (tS q W (.try b cs nm h els)) := by
  refine PS.dyn fun Z σ H ⟨env, μ, ι, G, R, S, k⟩ => ⟨_, ps_try_thru hb ho, env, μ, ι, G, R, S, ?_⟩
  have k' : CtS q.T W ι G (match evS q.P q.call b env μ with
    | .ok (.nx, env') μ' => evS q.P q.call els env' μ'
    | .ok (.rt d, env') μ' => .ok (.rt d, env') μ'
    | .ok (.bk, env') μ' => .ok (.bk, env') μ'
    | .ok (.ct, env') μ' => .ok (.ct, env') μ'
    | .ex _ _ => .bad
    | .bad => .bad) Z := k
  cases eb : evS q.P q.call b env μ with
  | bad => rw [eb] at k'; exact k'
  | ex y μ1 => rw [eb] at k'; exact k'.elim
  | ok p μ1 =>
    obtain ⟨sg, env2⟩ := p
    rw [eb] at k'
    cases sg with
    | nx => exact fun σ' ι1 G1 H1 g r s => ⟨env2, μ1, ι1, G1, r, s, CtS.grow k' g⟩
    | rt d => exact k'
    | bk => exact k'
    | ct => exact k'
/-! ### a comprehension stored -/
def swB (sc : Scope) (tge e : Expr) : Bool := match tge, e with
  | .Name y py, .ListComp _ _ scope pos => (match sc.kind with
    | .function => true
    | _ => false) && decide (sc.names.lookup y = some .local) && (py.line == pos.line) && !(scope.names.any fun (n, k) => n == y && (k == .local || k == .cell))
  | _, _ => false
theorem ss_asgLc {sc : Scope} {W : WX} {X : Cx} (x : XOk q sc N W X) {k : ITK} {fz : Bool} {it c e : CE} {tg : TGT} {elt tge iter : Expr} {ifs : List Expr} {scope : Scope} {own : List (Str × Nat)} {pos spos : Pos} {i : Nat} {tgx : Expr}
    (l : LcOk q sc N W X k it tg c e elt tge iter ifs scope own) (hG : okG N sc true (.nm i) tgx = true) (hs : swB sc tgx (.ListComp elt [⟨tge, iter, ifs, 0⟩] scope pos) = true) :
    PS X (.Assign [tgx] (.ListComp elt [⟨tge, iter, ifs, 0⟩] scope pos) spos) (tS q W (.asg (.nm i) (.lc fz k it tg c e (own.map (·.2))))) := by
  cases tgx with
  | Name y py =>
    unfold swB at hs
    simp only [Bool.and_eq_true, decide_eq_true_eq, Bool.not_eq_true'] at hs
    obtain ⟨⟨⟨h1, h2⟩, h3⟩, h4⟩ := hs
    have hk : X.env.scope.kind = .function := by
      rw [x.eS]
      split at h1
      · assumption
      · cases h1
    have hN : N[i]? = some y := by
      have h' : (decide (N[i]? = some y) && (match sc.names.lookup y with
        | some .local => true
        | some .cell => true
        | _ => false)) = true := hG
      rw [Bool.and_eq_true, decide_eq_true_eq] at h'
      exact h'.1
    have rule := st_setLc (fz := fz) (pos := pos) (py := py) (spos := spos) x l hN h2 (sw_true hk (by rw [x.eS]; exact h2) h3 h4)
    refine PS.dyn fun Z σ H ⟨env, μ, ι, G, R, S, kc⟩ => ?_
    have k' : CtS q.T W ι G (Co.lift env (evE q.P q.call (.lc fz k it tg c e (own.map (·.2))) env μ) fun d μ => .ok (.nx, env.set i (some d)) μ) Z := kc
    have ct : Ct q.T W σ ι G (evE q.P q.call (.lc fz k it tg c e (own.map (·.2))) env μ) (fun v H1 => Z.nx (σ.set i (some v)) H1) :=
      k'.lift S fun d μ1 v ι1 G1 H1 _ g r rv k1 => k1 _ ι1 G1 H1 (Grow.refl _ _) r ((S.mono g).set rv i)
    rcases lc_dyn R S l.hi l.hg ct with h | h
    · exact ⟨_, rule, h⟩
    · obtain ⟨d, u, h1, h2, h3⟩ := h
      exact ⟨_, ps_lock rule, d, u, h1, h2, h3⟩
  | _ => cases hG
/-! ### the check -/
structure KS where
  s : Scope → Stmt → Bool
  l : Scope → List Stmt → Bool
def one1 (k : Scope → Stmt → Bool) : KS := ⟨k, fun sc sts => match sts with
  | [st] => k sc st
  | _ => false⟩
def isNm : Expr → Bool
  | .Name .. => true
  | _ => false
/-- a name that inner blocks read -/
def celNm (sc : Scope) : Expr → Bool
  | .Name y _ => decide (sc.names.lookup y = some .cell)
  | _ => false
def ghost : CS → Bool
  | .frz _ => true
  | .frzf _ _ => true
  | .clr _ => true
  | _ => false
section
variable (q : Cq) (N : List Str)
def kAsgLc (tg : TGT) (e : CE) (sc : Scope) (st : Stmt) : Bool := match tg, e with
  | .nm i, .lc fz k it tg' c e' own => (match st with
    | .Assign [tge] ev _ => okG N sc true (.nm i) tge && okE q N (.lc fz k it tg' c e' own) q.lm false sc ev && swB sc tge ev
    | _ => false)
  | _, _ => false
def kAsg1 (tg : TGT) (e : CE) (sc : Scope) (st : Stmt) : Bool := match st with
  | .Assign [tge] ev _ => okG N sc true tg tge && plE ev && (!isComp ev || celNm sc tge) && (!isTup ev || isNm tge) && okE q N e q.lm false sc ev
  | _ => false
def cExp (e : CE) (sc : Scope) (st : Stmt) : Bool := match st with
  | .Expr ev _ => plE ev && !isComp ev && okE q N e q.lm false sc ev
  | _ => false
def nonB : CE → Bool
  | .lit .non => true
  | _ => false
def cRet (e : CE) (sc : Scope) (st : Stmt) : Bool := match st with
  | .Return (some ev) _ => okE q N e q.lm false sc ev
  | .Return none _ => nonB e
  | _ => false
def kSfl (o : CE) (f : Nat) (e : CE) (sc : Scope) (st : Stmt) : Bool := match st with
  | .Assign [.Attribute oe y _] ev _ => decide (y = q.T.fN f) && plE ev && !isComp ev && okE q N o q.lm false sc oe && okE q N e q.lm false sc ev
  | _ => false
def kSix (o i : CE) (e : CE) (sc : Scope) (st : Stmt) : Bool := match st with
  | .Assign [.Subscript oe ie _] ev _ => plE ev && !isComp ev && plE ie && okE q N o q.lm false sc oe && okE q N i q.lm false sc ie && okE q N e q.lm false sc ev
  | _ => false
def augB : BinO → Operator → Bool
  | .add, .Add => true
  | .sub, .Sub => true
  | _, _ => false
def locB (sc : Scope) (y : Str) : Bool := match sc.names.lookup y with
  | some .local => true
  | some .cell => true
  | _ => false
def kAu (i : Nat) (o : BinO) (e : CE) (sc : Scope) (st : Stmt) : Bool := match st with
  | .AugAssign (.Name y _) op ev _ => augB o op && decide (N[i]? = some y) && locB sc y && okE q N e q.lm false sc ev
  | _ => false
def kIf (c : CE) (a b : KS) (sc : Scope) (st : Stmt) : Bool := match st with
  | .If ev as bs _ => okE q N c q.lm true sc ev && a.l sc as && b.l sc bs
  | _ => false
def kFo (k : ITK) (it : CE) (tg : TGT) (b : KS) (sc : Scope) (st : Stmt) : Bool := match st with
  | .For tge iter body [] _ => cIt k (okA q N it q.lm) sc tge iter && okG N sc true tg tge && b.l sc body
  | _ => false
def kWh (c : CE) (b : KS) (sc : Scope) (st : Stmt) : Bool := match st with
  | .While ev body [] _ => okE q N c q.lm true sc ev && b.l sc body
  | _ => false
def kTry (b els : KS) (sc : Scope) (st : Stmt) : Bool := match st with
  | .Try body (_ :: _) orelse [] _ => b.l sc body && els.l sc orelse
  | _ => false
def okS : CS → KS
  | .skip => ⟨fun _ st => match st with
    | .Pass _ => true
    | _ => false, fun _ sts => match sts with
    | [] => true
    | [.Pass _] => true
    | _ => false⟩
  | .seq a b => ⟨fun _ _ => false, fun sc sts => if ghost a then (okS b).l sc sts else match sts with
    | st :: r => (okS a).s sc st && (okS b).l sc r
    | [] => false⟩
  | .asg tg e => one1 fun sc st => kAsgLc q N tg e sc st || kAsg1 q N tg e sc st
  | .exp e => one1 (cExp q N e)
  | .ret e => one1 (cRet q N e)
  | .sfld o f e => one1 (kSfl q N o f e)
  | .sidx o i e => one1 (kSix q N o i e)
  | .aug i o e => one1 (kAu q N i o e)
  | .ite c a b => one1 (kIf q N c (okS a) (okS b))
  | .for k it tg b _ => one1 (kFo q N k it tg (okS b))
  | .while c b _ => one1 (kWh q N c (okS b))
  | .brk => one1 fun _ st => match st with
    | .Break _ => true
    | _ => false
  | .cnt => one1 fun _ st => match st with
    | .Continue _ => true
    | _ => false
  | .raise _ _ => one1 fun _ _ => true
  | .try b _ _ _ els => one1 (kTry (okS b) (okS els))
  | .clr _ => ⟨fun _ _ => false, fun _ sts => sts.isEmpty⟩
  | _ => ⟨fun _ _ => false, fun _ _ => false⟩
end
structure SndS (q : Cq) (N : List Str) (k : KS) (c : CS) : Prop where
  s : ∀ sc st, k.s sc st = true → ∀ W X, SOk q sc N W X → PS X st (tS q W c)
  l : ∀ sc sts, k.l sc sts = true → ∀ W X, SOk q sc N W X → PSs X sts (tS q W c)
theorem snd_one {k : Scope → Stmt → Bool} {c : CS} (h : ∀ sc st, k sc st = true → ∀ W X, SOk q sc N W X → PS X st (tS q W c)) : SndS q N (one1 k) c := by
  refine ⟨h, fun sc sts hl W X s => ?_⟩
  unfold one1 at hl
  simp only at hl
  split at hl
  · exact ss_one (h _ _ hl W X s)
  · cases hl
theorem snd_no {c : CS} : SndS q N ⟨fun _ _ => false, fun _ _ => false⟩ c := ⟨fun sc st h => by (cases h), fun sc st h => by (cases h)⟩
theorem isNm_of {e : Expr} (h : isNm e = true) : ∃ y p, e = .Name y p := by
  cases e <;> first | exact ⟨_, _, rfl⟩ | exact Bool.noConfusion h
theorem celNm_of {sc : Scope} {e : Expr} (h : celNm sc e = true) : ∃ y p, e = .Name y p ∧ sc.names.lookup y = some .cell := by
  cases e <;> first | exact ⟨_, _, rfl, of_decide_eq_true h⟩ | exact Bool.noConfusion h
theorem snd_asg {tg : TGT} {e : CE} {sc : Scope} {st : Stmt} (h : (kAsgLc q N tg e sc st || kAsg1 q N tg e sc st) = true) {W : WX} {X : Cx} (s : SOk q sc N W X) : PS X st (tS q W (.asg tg e)) := by
  rw [Bool.or_eq_true] at h
  rcases h with h | h
  · unfold kAsgLc at h
    split at h
    · split at h
      · rename_i i fz k it tg' c e' own x tge ev pos
        rw [Bool.and_eq_true, Bool.and_eq_true] at h
        have hc : cLc N k (okA q N it q.lm) tg' c (okE q N c none) (okE q N e' none) own false sc ev = true := h.1.2
        obtain ⟨_, elt, tge2, iter, ifs, scope, p2, rfl, h2, l⟩ := lcok_of (okE_all it q.lm).2.1 (okE_all c none).1 (okE_all e' none).1 s.x hc
        have := ss_asgLc (fz := fz) (spos := pos) s.x l h.1.1 h.2
        rw [h2] at this
        exact this
      · cases h
    · cases h
  · unfold kAsg1 at h
    split at h
    · rename_i tge ev pos
      simp only [Bool.and_eq_true, Bool.or_eq_true, Bool.not_eq_true'] at h
      obtain ⟨⟨⟨⟨h1, h2⟩, h3⟩, h4⟩, h5⟩ := h
      refine ss_asg s h1 h2 (h3.imp id celNm_of) (h4.imp id isNm_of) ((okE_all e q.lm).1 _ _ _ h5 W X s.x)
    · cases h
theorem okS_all : ∀ c : CS, SndS q N (okS q N c) c := by
  intro c
  induction c with
  | skip =>
    refine ⟨fun sc st h W X s => ?_, fun sc sts h W X s => ?_⟩
    · unfold okS at h
      simp only at h
      split at h
      · exact ss_pass
      · cases h
    · unfold okS at h
      simp only at h
      split at h
      · exact ss_skip
      · exact ss_one ss_pass
      · cases h
  | seq a b ha hb =>
    refine ⟨fun sc st h => (by cases h), fun sc sts h W X s => ?_⟩
    unfold okS at h
    simp only at h
    split at h
    · rename_i hg
      have := hb.l _ _ h W X s
      cases a <;> first | exact ss_frz this | exact ss_frzf this | exact ss_clr this | cases hg
    · split at h
      · rw [Bool.and_eq_true] at h
        exact ss_seq (ha.s _ _ h.1 W X s) (hb.l _ _ h.2 W X s)
      · cases h
  | asg tg e => exact snd_one fun sc st h W X s => snd_asg h s
  | exp e =>
    refine snd_one fun sc st h W X s => ?_
    unfold cExp at h
    split at h
    · simp only [Bool.and_eq_true, Bool.not_eq_true'] at h
      exact ss_exp h.1.1 h.1.2 ((okE_all e q.lm).1 _ _ _ h.2 W X s.x)
    · cases h
  | ret e =>
    refine snd_one fun sc st h W X s => ?_
    unfold cRet at h
    split at h
    · exact ss_ret ((okE_all e q.lm).1 _ _ _ h W X s.x)
    · unfold nonB at h
      split at h
      · exact ss_retN
      · cases h
    · cases h
  | sfld o f e =>
    refine snd_one fun sc st h W X s => ?_
    unfold kSfl at h
    split at h
    · simp only [Bool.and_eq_true, decide_eq_true_eq, Bool.not_eq_true'] at h
      obtain ⟨⟨⟨⟨rfl, h1⟩, h2⟩, h3⟩, h4⟩ := h
      exact ss_sfld s.x h1 h2 ((okE_all o q.lm).1 _ _ _ h3 W X s.x) ((okE_all e q.lm).1 _ _ _ h4 W X s.x)
    · cases h
  | sidx o i e =>
    refine snd_one fun sc st h W X s => ?_
    unfold kSix at h
    split at h
    · simp only [Bool.and_eq_true, Bool.not_eq_true'] at h
      obtain ⟨⟨⟨⟨⟨h1, h2⟩, h3⟩, h4⟩, h5⟩, h6⟩ := h
      exact ss_sidx s.x h1 h2 h3 ((okE_all o q.lm).1 _ _ _ h4 W X s.x) ((okE_all i q.lm).1 _ _ _ h5 W X s.x) ((okE_all e q.lm).1 _ _ _ h6 W X s.x)
    · cases h
  | aug i o e =>
    refine snd_one fun sc st h W X s => ?_
    unfold kAu at h
    split at h
    · rename_i y p op ev pos
      simp only [Bool.and_eq_true, decide_eq_true_eq] at h
      obtain ⟨⟨⟨h1, h2⟩, h3⟩, h4⟩ := h
      have hl : sc.names.lookup y = some .local ∨ sc.names.lookup y = some .cell := by
        unfold locB at h3
        split at h3
        · exact .inl (by assumption)
        · exact .inr (by assumption)
        · cases h3
      have he := (okE_all e q.lm).1 _ _ _ h4 W X s.x
      cases o <;> cases op <;> first | exact ss_aug s rfl h2 hl he | cases h1
    · cases h
  | augf _ _ _ _ => exact snd_no
  | ite c a b ha hb =>
    refine snd_one fun sc st h W X s => ?_
    unfold kIf at h
    split at h
    · rw [Bool.and_eq_true, Bool.and_eq_true] at h
      exact ss_ite ((okE_all c q.lm).1 _ _ _ h.1.1 W X s.x) (ha.l _ _ h.1.2 W X s) (hb.l _ _ h.2 W X s)
    · cases h
  | «for» k it tg b clr hb =>
    refine snd_one fun sc st h W X s => ?_
    unfold kFo at h
    split at h
    · rw [Bool.and_eq_true, Bool.and_eq_true] at h
      obtain ⟨pi, pl⟩ := snd_it (okE_all it q.lm).2.1 s.x h.1.1
      exact ss_for s pi pl h.1.2 (hb.l _ _ h.2 W X s)
    · cases h
  | «while» c b clr hb =>
    refine snd_one fun sc st h W X s => ?_
    unfold kWh at h
    split at h
    · rw [Bool.and_eq_true] at h
      exact ss_while s ((okE_all c q.lm).1 _ _ _ h.1 W X s.x) (hb.l _ _ h.2 W X s)
    · cases h
  | brk =>
    refine snd_one fun sc st h W X s => ?_
    split at h
    · exact ss_brk
    · cases h
  | cnt =>
    refine snd_one fun sc st h W X s => ?_
    split at h
    · exact ss_cnt
    · cases h
  | raise c as => exact snd_one fun sc st h W X s => PS.dyn fun Z σ H ⟨env, μ, ι, G, R, S, k⟩ => k.elim
  | «try» b cs nm h els hb hh he =>
    refine snd_one fun sc st hk W X s => ?_
    unfold kTry at hk
    split at hk
    · rw [Bool.and_eq_true] at hk
      exact ss_try (hb.l _ _ hk.1 W0 _ s.nox) (he.l _ _ hk.2 W X s)
    · cases hk
  | frz i => exact snd_no
  | frzf i f => exact snd_no
  | clr vs =>
    refine ⟨fun sc st h => (by cases h), fun sc sts h W X s => ?_⟩
    cases sts with
    | nil => exact ss_clr1
    | cons _ _ => cases h
end Co

set_option linter.all false
set_option maxRecDepth 100000
set_option Elab.async false
/-! Co26: every def of the table keeps its promise. -/
namespace Co
open PySem L2
/-- what is fixed, at n calls deep -/
def Cq.at (q : Cq) (n : Nat) : Cq := { q with call := run q.P n, k := 2 * n }
/-- what the making of lambdas asks of a def: its code object and its table are among cs -/
def MkD (q : Cq) (cs : List (Addr × Addr)) (qual : Str) (fd : FuncData) (ql : Str) : Prop :=
  ql = qual ++ ".<locals>." ++ "<lambda>" ∧ ∃ k p, fd.code = .ref k ∧ (k, p) ∈ cs ∧ (p, ql) ∈ q.T.tb ∧ ∀ z ∈ q.T.tb, z.1 = p → z.2 = ql
/-- what is known of a def -/
def DefIs (q : Cq) (cs : List (Addr × Addr)) (f : Nat) (F : FnT) (fd : FuncData) (ps : List Str) : Prop :=
  ∃ (x qual : Str) (params : Arguments) (body : List Stmt) (scope : Scope) (dvs : List V) (kws : List (Str × V)) (N : List Str) (lm : Option Str), FunD q.T.K x qual params body scope dvs kws (q.fA f) fd ∧ FnScope N ps scope ∧ F.np = ps.length ∧ F.nv = N.length ∧
    (∀ n, (okS { q.at n with lm := lm } N F.body).l scope body = true) ∧ (∀ ql, lm = some ql → MkD q cs qual fd ql) ∧ (∀ dv, dflB q f dv = true → ∃ ds, Vals (dv.map dV) ds ∧ Binds q.T.K fd ps ds)
def DefOk (q : Cq) (cs : List (Addr × Addr)) (f : Nat) (F : FnT) : Prop := ∃ fd ps, DefIs q cs f F fd ps
/-- .. of a lambda -/
def LamOk (q : Cq) (F : FnT) (L : LamD) : Prop :=
  ∃ (x : Str) (e : CE), LamSc L x ∧ (∀ cs pm c ctv u, bindArgs (PySem.W.kla_fn "<lambda>" L.qual L.ps L.body L.sc cs pm (.ref c) ctv) ⟨[u], []⟩ = pure [(x, u)]) ∧ F = ⟨L.cap.length + 1, L.cap.length + 1, .ret e⟩ ∧ ∀ n, okE (q.at n) (L.cap ++ [x]) e none false L.sc L.body = true
section
variable {q : Cq} {P : Program} {w : World} {mg : Str → Option Value} {base : Heap}
/-- a def's promise, in a program -/
def FnP (q : Cq) (P : Program) (w : World) (mg : Str → Option Value) (base : Heap) (f : Nat) : Prop :=
  ∃ (fd : FuncData) (ps : List Str), FnOk P w q.T.K mg base (L2.CX P w) q.k (q.fA f) fd ps (spC q.T q.call f) ∧ (∀ dv, dflB q f dv = true → ∃ ds, Vals (dv.map dV) ds ∧ Binds q.T.K fd ps ds) ∧ PySem.W.keepIn q.T.K (.ref (q.fA f)) = true
theorem relS_start {T : Nam} {ι : List Addr} {G : Hp} {vs : List V} {ds : List D} (r : RepL T ι G vs ds) (N : List Str) : RelS T ι G (ds.map some ++ List.replicate (N.length - ds.length) none) (L2.start N vs) := by
  have hl := r.length
  refine ⟨by unfold L2.start; rw [List.length_append, List.length_append, List.length_map, List.length_map, List.length_replicate, List.length_replicate, hl], fun i d e => ?_⟩
  by_cases h : i < ds.length
  · rw [List.getElem?_append_left (by rw [List.length_map]; exact h), List.getElem?_map] at e
    obtain ⟨d', hd, he⟩ := Option.map_eq_some_iff.mp e
    cases he
    obtain ⟨v, hv, rv⟩ := r.get hd
    refine ⟨v, ?_, rv⟩
    unfold L2.start
    rw [List.getElem?_append_left (by rw [List.length_map, hl]; exact h), List.getElem?_map, hv]
    rfl
  · rw [List.getElem?_append_right (by rw [List.length_map]; omega), List.getElem?_replicate] at e
    split at e <;> cases e
theorem Lk.at {mg : Str → Option Value} (hlk : Lk q mg) (n : Nat) (m : Option Str) : Lk { q.at n with lm := m } mg := ⟨hlk.fn, hlk.kp, hlk.kpc, hlk.con, hlk.blt, hlk.cls, hlk.inj, hlk.at_, hlk.mth, hlk.kit, hlk.ity, hlk.rdi, hlk.mak, hlk.nlf, hlk.nlm, hlk.nli⟩
/-- all promises at n calls deep -/
structure AllP (q : Cq) (P : Program) (w : World) (mg : Str → Option Value) (base : Heap) (n : Nat) : Prop where
  fn : ∀ f, q.T.lam f = none → (∃ ds μ, run q.P n f ds μ ≠ .bad) → FnP (q.at n) P w mg base f
  lam : ∀ lf L, q.T.lam lf = some L → (∃ ds μ, run q.P n lf ds μ ≠ .bad) → LamP P w q.T mg base (2 * n) (run q.P n) lf L
theorem fn_step (hlk : Lk q mg) {cs : List (Addr × Addr)} (hcs : ∀ z ∈ cs, LamX.TabB base mg z.1 z.2) {n : Nat} (ih : AllP q P w mg base n) {f : Nat} {F : FnT} (hF : q.P.fns[f]? = some F) {fd : FuncData} {ps : List Str} (hd : DefIs q cs f F fd ps) :
    FnOk P w q.T.K mg base (L2.CX P w) (2 * (n + 1)) (q.fA f) fd ps (spC q.T (run q.P (n + 1)) f) := by
  obtain ⟨x, qual, params, body, scope, dvs, kws, N, lm, hfun, hsc, hnp, hnv, hok, hmk, hdf⟩ := hd
  have runE : ∀ ds μ, run q.P (n + 1) f ds μ = if F.np = ds.length then leave μ (fin (evS q.P (run q.P n) F.body (ds.map some ++ List.replicate (F.nv - F.np) none) μ)) else .bad := fun ds μ => by
    unfold run
    rw [hF]
  have lenE : ∀ vs H Q E, spC q.T (run q.P (n + 1)) f vs H Q E → vs.length = ps.length := by
    intro vs H Q E ⟨ι, G, μ, ds, R, rl, c⟩
    rw [runE] at c
    split at c
    · rename_i hl
      rw [rl.length, ← hl, hnp]
    · exact c.elim
  obtain ⟨oc, od, dV, kV, doc, pm, an, cdv, ct, osl, rfl, lk, hcd, _, _⟩ := hfun.ex
  refine fn_of lk hcd hsc lenE fun A outer s H vs Q E hr ⟨ι, G, μ, ds, R, rl, c⟩ => ?_
  rw [runE] at c
  split at c
  · rename_i hl
    have c2 := leave_ct R c
    have so : SOk { q.at n with lm := lm } scope N (fun cls d _ H => E cls d H) (cxOf (L2.CX P w) P w q.T.K mg base N qual scope (q.fA f) cdv A outer s H E) := {
      x := { eK := rfl, eS := rfl, eN := rfl, nd := hsc.nd, calm := rfl, room := hr, tk := takes_of rfl rfl rfl rfl, lk := hlk.at n lm, fns := fun g hl hg => ⟨ih.fn g hl hg⟩, lams := ih.lam
             lmk := fun ql hq => by
              obtain ⟨h1, k, p, h2, h3, h4, h5⟩ := hmk ql hq
              exact ⟨fun _ => rfl, rfl, rfl, h1.symm, k, p, h2, hcs _ h3, h4, h5⟩ }
      po := passes_of rfl
      fnl := fun _ => rfl }
    refine ⟨_, (okS_all F.body).l _ _ (hok n) _ _ so, _, μ, ι, G, R, relS_start rl N, ?_⟩
    have e1 : F.nv - F.np = N.length - ds.length := by rw [hnv, hl]
    rw [e1] at c2
    show CtS q.T _ ι G (evS q.P (run q.P n) F.body _ μ) _
    cases er : evS q.P (run q.P n) F.body (ds.map some ++ List.replicate (N.length - ds.length) none) μ with
    | bad => rw [er] at c2; exact c2
    | ex p μ1 =>
      obtain ⟨y, env1⟩ := p
      rw [er] at c2
      exact fun cls dd σ' ι' G' H' g R' S' rx => c2 cls dd ι' G' H' g R' rx
    | ok p μ1 =>
      obtain ⟨sg, env1⟩ := p
      rw [er] at c2
      cases sg with
      | nx => exact fun σ' ι' G' H' g R' S' => c2 .non ι' G' H' g R' .non
      | rt d => exact c2
      | bk => exact c2.elim
      | ct => exact c2.elim
  · exact c.elim
theorem lam_step (hlk : Lk q mg) {n : Nat} (ih : AllP q P w mg base n) {lf : Nat} {F : FnT} {L : LamD} (hF : q.P.fns[lf]? = some F) (hd : LamOk q F L) : LamP P w q.T mg base (2 * (n + 1)) (run q.P (n + 1)) lf L := by
  obtain ⟨x, e, S, hps, rfl, hok⟩ := hd
  refine ⟨fun A outer s H cs f c pm ctv caps v u Q hr e0 hcs hnd hc r hf hcode ⟨ι, G, μ, ds, d, R, rl, rd, ct⟩ => ?_⟩
  have runE : run q.P (n + 1) lf (ds ++ [d]) μ = if L.cap.length + 1 = (ds ++ [d]).length then leave μ (fin (evS q.P (run q.P n) (.ret e) ((ds ++ [d]).map some ++ List.replicate (L.cap.length + 1 - (L.cap.length + 1)) none) μ)) else .bad := by
    unfold run
    rw [hF]
  rw [runE] at ct
  split at ct
  · have c2 := leave_ct R ct
    rw [Nat.sub_self, List.replicate_zero, List.append_nil] at c2
    refine lam_core (k := 2 * n + 1) (tb := tE (q.at n).nomk W0 e) (pm := pm) (ctv := ctv) S hr e0 hcs hnd hc r hf hcode (fun fd e1 => ?_) (fun hr' => ?_) ⟨(ds ++ [d]).map some, μ, ι, G, R, ?_, ?_⟩
    · subst e1
      exact hps _ _ _ _ _
    · refine (okE_all e none).1 false L.sc L.body (hok n) W0 _ { eK := rfl, eS := rfl, eN := rfl, nd := S.nd, calm := rfl, room := hr', tk := fun u s' h => ?_, lk := hlk.at n none, fns := fun g hl hg => ⟨ih.fn g hl hg⟩, lams := ih.lam, lmk := fun ql hq => by cases hq }
      obtain ⟨a, B, sI, pins, σ, H, cls, d, e, I, nb, up, sky, na, os, ag, w⟩ := h
      exact w.elim
    · have hl := rl.length
      refine ⟨by rw [List.length_map, List.length_append, List.length_append, List.length_map, hl]; rfl, fun i z hz => ?_⟩
      rw [List.map_append, List.map_cons, List.map_nil] at hz
      by_cases hi : i < ds.length
      · rw [List.getElem?_append_left (by rw [List.length_map]; exact hi), List.getElem?_map] at hz
        obtain ⟨d', hd', he⟩ := Option.map_eq_some_iff.mp hz
        cases he
        obtain ⟨w, hw, rw'⟩ := rl.get hd'
        exact ⟨w, by rw [List.getElem?_append_left (by rw [List.length_map, hl]; exact hi), List.getElem?_map, hw]; rfl, rw'⟩
      · rw [List.getElem?_append_right (by rw [List.length_map]; omega), List.length_map] at hz
        have h0 : i - ds.length = 0 := by
          have := (List.getElem?_eq_some_iff.mp hz).1
          simp at this
          omega
        rw [h0] at hz
        cases hz
        exact ⟨v, by rw [List.getElem?_append_right (by rw [List.length_map, hl]; omega), List.length_map, hl, h0]; rfl, rd⟩
    · show Ct q.T W0 _ ι G (evE q.P (run q.P n) e ((ds ++ [d]).map some) μ) Q
      have e2 : evS q.P (run q.P n) (.ret e) ((ds ++ [d]).map some) μ = lift ((ds ++ [d]).map some) (evE q.P (run q.P n) e ((ds ++ [d]).map some) μ) fun z μ => .ok (.rt z, (ds ++ [d]).map some) μ := rfl
      have e3 : fin (evS q.P (run q.P n) (.ret e) ((ds ++ [d]).map some) μ) = evE q.P (run q.P n) e ((ds ++ [d]).map some) μ := by
        show fin (lift _ (evE q.P (run q.P n) e ((ds ++ [d]).map some) μ) _) = _
        cases evE q.P (run q.P n) e ((ds ++ [d]).map some) μ <;> rfl
      rw [e3] at c2
      cases er : evE q.P (run q.P n) e ((ds ++ [d]).map some) μ with
      | bad => rw [er] at c2; exact c2
      | ex y μ1 => rw [er] at c2; exact fun cls dd ι' G' H' g R' rx => c2 cls dd ι' G' H' g R' rx
      | ok z μ1 => rw [er] at c2; exact c2
  · exact ct.elim
/-- all that is asked of the table -/
def TabOk (q : Cq) (cs : List (Addr × Addr)) : Prop := ∀ f F, q.P.fns[f]? = some F → (q.T.lam f = none → DefOk q cs f F) ∧ ∀ L, q.T.lam f = some L → LamOk q F L
theorem fn_all (hlk : Lk q mg) {cs : List (Addr × Addr)} (hcs : ∀ z ∈ cs, LamX.TabB base mg z.1 z.2) (hd : TabOk q cs) : ∀ n, AllP q P w mg base n := by
  intro n
  induction n with
  | zero => exact ⟨fun f _ ⟨ds, μ, h⟩ => absurd rfl h, fun f _ _ ⟨ds, μ, h⟩ => absurd rfl h⟩
  | succ n ih =>
    have at_ : ∀ f, (∃ ds μ, run q.P (n + 1) f ds μ ≠ .bad) → ∃ F, q.P.fns[f]? = some F := fun f ⟨ds0, μ0, h0⟩ => by
      cases e : q.P.fns[f]? with
      | none => exact absurd (by show run q.P (n + 1) f ds0 μ0 = .bad; unfold run; rw [e]) h0
      | some F => exact ⟨F, rfl⟩
    refine ⟨fun f hl h => ?_, fun f L hl h => ?_⟩
    · obtain ⟨F, hF⟩ := at_ f h
      obtain ⟨fd, ps, hds⟩ := (hd f F hF).1 hl
      obtain ⟨x, qual, params, body, scope, dvs, kws, N, lm, hfun, _, _, _, _, _, hdf⟩ := id hds
      exact ⟨fd, ps, fn_step hlk hcs ih hF hds, hdf, hfun.kp⟩
    · obtain ⟨F, hF⟩ := at_ f h
      exact lam_step hlk ih hF ((hd f F hF).2 L hl)
end
end Co

set_option linter.all false
set_option maxRecDepth 100000
set_option Elab.async false
/-! Co27: what the head tells. -/
namespace Co
open PySem L2
/-- the static part of a law -/
structure Hs where
  P : Prog
  tx : Tx
  dfl : List (List D)
  dd : List He.DefD
  /-- lambdas, by their places in the table -/
  lams : List (Nat × LamD) := []
  /-- the defs that make them, and the lambdas' whole names -/
  mks : List (Nat × Str) := []
/-! ### lambdas in a text -/
def lamsE : Nat → Expr → List (Arguments × Expr × Scope)
  | 0, _ => []
  | n + 1, e => match e with
    | .Lambda ps bd sc _ => [(ps, bd, sc)]
    | .Call f as _ _ => lamsE n f ++ as.flatMap (lamsE n)
    | .Attribute e _ _ => lamsE n e
    | .Subscript a b _ => lamsE n a ++ lamsE n b
    | _ => []
def lamsS : Nat → Stmt → List (Arguments × Expr × Scope)
  | 0, _ => []
  | n + 1, s => match s with
    | .Assign _ e _ => lamsE 20 e
    | .Return (some e) _ => lamsE 20 e
    | .Expr e _ => lamsE 20 e
    | .If _ a b _ => a.flatMap (lamsS n) ++ b.flatMap (lamsS n)
    | .For _ _ a _ _ => a.flatMap (lamsS n)
    | .While _ a _ _ => a.flatMap (lamsS n)
    | _ => []
def lamAt (qual : Str) (body : List Stmt) (i : Nat) : LamD := match (body.flatMap (lamsS 20))[i]? with
  | some (ps, bd, sc) => ⟨qual, ps, bd, sc, frees sc.names []⟩
  | none => ⟨qual, ⟨[], [], none, [], [], none, []⟩, default, default, []⟩
/-- a field's name -/
def fNm (fld : List Str) (f : Nat) : Str := match fld[f]? with
  | some s => s
  | none => ⟨Array.replicate (f + 1000) 0⟩
def cNm (cnm : List (Str × Nat)) (c : Nat) : Str := match cnm.find? (fun p => p.2 == c) with
  | some p => p.1
  | none => ""
/-- a maker's code object and its table -/
def Hs.cT (h : Hs) (K : PySem.W.Frag) (f : Nat) : Addr × Addr := match h.dd[f]? with
  | some d => He.cT K d.at_
  | none => (0, 0)
def Hs.cs (h : Hs) (K : PySem.W.Frag) : List (Addr × Addr) := h.mks.map fun p => h.cT K p.1
def Hs.tb (h : Hs) (K : PySem.W.Frag) : List (Addr × Str) := h.mks.map fun p => ((h.cT K p.1).2, p.2)
def Hs.T (h : Hs) (K : PySem.W.Frag) : Nam := ⟨K, fun c => He.ga K (cNm h.tx.cnm c), fNm h.tx.fld, h.tb K, fun f => h.lams.lookup f⟩
def Hs.fA (h : Hs) (K : PySem.W.Frag) (f : Nat) : Addr := match h.dd[f]? with
  | some d => He.fAd K d.at_
  | none => 0
def Hs.q (h : Hs) (K : PySem.W.Frag) : Cq := { P := h.P, tx := h.tx, T := h.T K, fA := h.fA K, call := fun _ _ _ => .bad, k := 0, dfl := h.dfl }
def clsB (K : PySem.W.Frag) (C : Addr) : Bool := PySem.W.plainGet K C Str.empty && (PySem.W.hasDictIn K C && (PySem.W.plainOver K C && He.eqO (PySem.W.findIn K (.ref C) "__setattr__") (some (some (.builtin "object.__setattr__")))))
theorem clsB_ok {K : PySem.W.Frag} {C : Addr} (c : clsB K C = true) : Cls K C := by
  obtain ⟨c1, c⟩ := He.ba c
  obtain ⟨c2, c⟩ := He.ba c
  obtain ⟨c3, c4⟩ := He.ba c
  exact ⟨c1, c2, c3, He.eqO_ok c4⟩
/-- a constant of the module -/
def dDv : D → He.Dv
  | .non => .non
  | .bl b => .bl b
  | .int i => .int i
  | .str x => .str x
  | _ => .non
def conB (K : PySem.W.Frag) (x : Str) : D → Bool
  | .int i => (He.Fa.int x i).ok K
  | .str z => (He.Fa.str x z).ok K && z.cps.toList.all fun c => decide (c < 0x110000)
  | .wtup ds => (He.Fa.glo x).ok K && He.tupB K x (ds.map dDv) && ds.all D.lit
  | _ => false
theorem dv_lit {K : PySem.W.Frag} : ∀ {d : D}, d.lit = true → (dDv d).v K = dV d
  | .non, _ => rfl
  | .bl _, _ => rfl
  | .int _, _ => rfl
  | .str _, _ => rfl
theorem dvs_lit {K : PySem.W.Frag} {ds : List D} (h : ds.all D.lit = true) : (ds.map dDv).map (He.Dv.v K) = ds.map dV := by
  rw [List.map_map]
  exact List.map_congr_left fun d hd => dv_lit (List.all_eq_true.mp h d hd)
theorem conB_ok {K : PySem.W.Frag} {hp : Heap} {mg : Str → Option Value} {T : Nam} (hK : T.K = K) (X : K.In hp) (G : hp.Ns mainGlobals mg) {x : Str} {d : D} (h : conB K x d = true) : ∃ v u, mg x = some u ∧ RelV v u ∧ ∀ ι G, RepD T ι G v d := by
  cases d <;> first | cases h | skip
  · rename_i i
    obtain ⟨t, ht⟩ := He.int_ok X G h
    exact ⟨.int i, _, ht, ⟨t, rfl⟩, fun _ _ => .int i⟩
  · rename_i z
    obtain ⟨h1, h2⟩ := He.ba h
    obtain ⟨t, ht⟩ := He.str_ok X G h1
    exact ⟨.str z, _, ht, ⟨t, rfl⟩, fun _ _ => .str fun c hc => of_decide_eq_true (List.all_eq_true.mp h2 c hc)⟩
  · rename_i ds
    obtain ⟨h1, h2⟩ := He.ba h
    obtain ⟨h3, h4⟩ := He.ba h1
    refine ⟨.ref (He.ga K x), _, He.glo_ok X G h3, rfl, fun ι G => .wtup ?_ (RepL.vals h2)⟩
    rw [hK, ← dvs_lit (K := K) h2]
    exact He.tupB_ok h4 G
def kds (n : Nat) : List Kd := (List.range n).map Kd.own ++ ["NoneType", "bool", "int", "str", "tuple", "list", "dict"].map Kd.ty
def tys (n : Nat) : List Ty := (List.range n).map Ty.own ++ [.int, .bool, .str, .list, .tuple, .dict]
def ityB (K : PySem.W.Frag) (C : Addr) : Bool := clsB K C && (decide (PySem.W.findIn K (.ref C) "__class__" = some (some (.builtin "object.__class__"))) && (decide (PySem.W.specialIn K (.builtin "object.__class__") "__get__" = some (some (.builtin "getset_descriptor.__get__"))) &&
  (decide (PySem.W.takesIn K (.builtin "object.__class__") = some true) && decide (PySem.W.mroIn K C (.type "object") = some true))))
/-- C.__init__ read off the class -/
def rdiB (K : PySem.W.Frag) (C f : Addr) : Bool := PySem.W.readsIn K C (.type "type") && (He.eqO (PySem.W.specialIn K (.ref C) "__getattribute__") (some (some (.builtin "type.__getattribute__"))) && ((match PySem.W.findCls K (.ref C) (.type "type") "__init__" with
    | some (.val v) => decide (v = .ref f)
    | _ => false) && PySem.W.keepIn K (.ref f)))
theorem rdiB_ok {K : PySem.W.Frag} {C f : Addr} (h : rdiB K C f = true) : PySem.W.readsIn K C (.type "type") = true ∧ PySem.W.specialIn K (.ref C) "__getattribute__" = some (some (.builtin "type.__getattribute__")) ∧ PySem.W.findCls K (.ref C) (.type "type") "__init__" = some (.val (.ref f)) ∧ PySem.W.keepIn K (.ref f) = true := by
  obtain ⟨h1, h⟩ := He.ba h
  obtain ⟨h2, h⟩ := He.ba h
  obtain ⟨h3, h4⟩ := He.ba h
  refine ⟨h1, He.eqO_ok h2, ?_, h4⟩
  split at h3
  · rename_i v e
    rw [e, of_decide_eq_true h3]
  · cases h3
/-- what is asked of the makers' tables -/
def Hs.okT (h : Hs) (K : PySem.W.Frag) : Bool := ((h.cs K).all fun z => PySem.W.codeHdIn K z.1 z.2) && (h.tb K).all fun z => (h.tb K).all fun y => !decide (z.1 = y.1) || decide (z.2 = y.2)
/-- all that is asked of the head -/
def Hs.ok (h : Hs) (K : PySem.W.Frag) : Bool :=
  (h.tx.fnm.all fun p => He.eqO (PySem.W.nsIn K mainGlobals p.1) (some (some (.ref (h.fA K p.2)))) && PySem.W.keepIn K (.ref (h.fA K p.2))) &&
  ((h.tx.cnm.all fun p => He.eqO (PySem.W.nsIn K mainGlobals p.1) (some (some (.ref ((h.T K).cA p.2)))) && PySem.W.keepIn K (.ref ((h.T K).cA p.2))) &&
  ((h.tx.gnm.all fun p => match h.P.consts[p.2]? with
    | some d => conB K p.1 d
    | none => true) &&
  ((blts.all fun x => He.eqO (PySem.W.nsIn K mainGlobals x) (some none)) &&
  (((List.range h.P.fok.length).all fun c => let C := (h.T K).cA c
      match h.P.fok.getD c [] with
      | [] => true
      | fs => clsB K C && fs.all fun f => He.eqO (PySem.W.findIn K (.ref C) (fNm h.tx.fld f)) (some none)) &&
  (((List.range h.P.mth.length).all fun c => let C := (h.T K).cA c
      match h.P.mth.getD c [] with
      | [] => true
      | ms => clsB K C && ms.all fun p => He.eqO (PySem.W.findIn K (.ref C) (h.tx.mnm.getD p.1 "")) (some (some (.ref (h.fA K p.2)))) && (PySem.W.isFn K (.ref (h.fA K p.2)) && PySem.W.keepIn K (.ref (h.fA K p.2)))) &&
  (((kds h.P.sub.length).all fun k => (tys h.P.sub.length).all fun t => decide (PySem.W.kitOne K (kdV (h.q K) k) (tyV' (h.q K) t) = some (isiK h.P.sub k t))) &&
  (((List.range h.P.sub.length).all fun c => ityB K ((h.T K).cA c)) &&
  ((List.range h.P.init.length).all fun c => let C := (h.T K).cA c
      match h.P.init.getD c none with
      | none => true
      | some f => (PySem.W.makesIn K C && (He.eqO (PySem.W.findIn K (.ref C) "__init__") (some (some (.ref (h.fA K f)))) && (PySem.W.isFn K (.ref (h.fA K f)) && PySem.W.keepIn K (.ref C)))) && rdiB K C (h.fA K f))))))))) 
/-- what does not need the head -/
def Hs.st (h : Hs) : Bool := decide h.tx.fld.Nodup && (h.tx.fld.all fun s : Str => decide (s.cps.size < 1000)) && (h.tx.mnm.all fun m : Str => decide (m.cps.size < 1000) && !h.tx.fld.contains m) && (h.P.mth.all fun ms => ms.all fun p => decide (p.1 < h.tx.mnm.length)) &&
  ((h.tx.fnm.all fun p => (h.lams.lookup p.2).isNone) && (h.P.mth.all fun ms => ms.all fun p => (h.lams.lookup p.2).isNone) && (h.P.init.all fun o => match o with
    | some f => (h.lams.lookup f).isNone
    | none => true))
theorem nodupG {α : Type} {l : List α} (h : l.Nodup) {i j : Nat} {a : α} (e1 : l[i]? = some a) (e2 : l[j]? = some a) : i = j := by
  obtain ⟨h1, f1⟩ := List.getElem?_eq_some_iff.mp e1
  obtain ⟨h2, f2⟩ := List.getElem?_eq_some_iff.mp e2
  rcases Nat.lt_trichotomy i j with q | q | q
  · exact absurd (f1.trans f2.symm) (List.pairwise_iff_getElem.mp h i j h1 h2 q)
  · exact q
  · exact absurd (f2.trans f1.symm) (List.pairwise_iff_getElem.mp h j i h2 h1 q)
theorem getD_mem {α : Type} {l : List α} {i : Nat} {d : α} (h : i < l.length) : l.getD i d ∈ l := by
  have e : l.getD i d = l[i] := by simp [List.getD, List.getElem?_eq_getElem h]
  rw [e]
  exact List.getElem_mem h
theorem fNm_inj {fld : List Str} (nd : fld.Nodup) (hs : (fld.all fun s : Str => decide (s.cps.size < 1000)) = true) : ∀ f g, fNm fld f = fNm fld g → f = g := by
  have big : ∀ (f : Nat) (s : Str), fld[f]? = some s → s.cps.size < 1000 := fun f s h => of_decide_eq_true (List.all_eq_true.mp hs s (List.mem_of_getElem? h))
  intro f g h
  unfold fNm at h
  cases hf : fld[f]? with
  | none => cases hg : fld[g]? with
    | none =>
      rw [hf, hg] at h
      have := congrArg (fun s : Str => s.cps.size) h
      simp at this
      exact this
    | some s =>
      rw [hf, hg] at h
      have := congrArg (fun s : Str => s.cps.size) h
      have h2 := big g s hg
      simp at this
      omega
  | some s => cases hg : fld[g]? with
    | none =>
      rw [hf, hg] at h
      have := congrArg (fun s : Str => s.cps.size) h
      have h2 := big f s hf
      simp at this
      omega
    | some t =>
      rw [hf, hg] at h
      have h : s = t := h
      subst h
      exact nodupG nd hf hg
theorem mem_of_lookup {α : Type} {x : Str} {l : List (Str × α)} {v : α} (h : l.lookup x = some v) : (x, v) ∈ l := by
  induction l with
  | nil => cases h
  | cons p r ih =>
    obtain ⟨k, w⟩ := p
    rw [List.lookup_cons] at h
    split at h
    · rename_i e
      cases h
      rw [eq_of_beq e]
      exact List.mem_cons_self
    · exact List.mem_cons_of_mem _ (ih h)
theorem mem_of_lookupN {α : Type} {x : Nat} {l : List (Nat × α)} {v : α} (h : l.lookup x = some v) : (x, v) ∈ l := by
  induction l with
  | nil => cases h
  | cons p r ih =>
    obtain ⟨k, w⟩ := p
    rw [List.lookup_cons] at h
    split at h
    · rename_i e
      cases h
      rw [eq_of_beq e]
      exact List.mem_cons_self
    · exact List.mem_cons_of_mem _ (ih h)
theorem getD_lt {α : Type} {l : List α} {i : Nat} {d : α} (h : l.getD i d ≠ d) : i < l.length := by
  by_cases e : i < l.length
  · exact e
  · exact absurd (by simp [List.getD, List.getElem?_eq_none (Nat.le_of_not_lt e)]) h
theorem lk_of {h : Hs} {K : PySem.W.Frag} {hp : Heap} {mg : Str → Option Value} (X : K.In hp) (G : hp.Ns mainGlobals mg) (hs : h.st = true) (c : h.ok K = true) : Lk (h.q K) mg := by
  unfold Hs.ok at c
  obtain ⟨c1, c⟩ := He.ba c
  obtain ⟨c2, c⟩ := He.ba c
  obtain ⟨c3, c⟩ := He.ba c
  obtain ⟨c4, c⟩ := He.ba c
  obtain ⟨c5, c⟩ := He.ba c
  obtain ⟨c6, c⟩ := He.ba c
  obtain ⟨c7, c⟩ := He.ba c
  obtain ⟨c8, c9⟩ := He.ba c
  unfold Hs.st at hs
  simp only [Bool.and_eq_true, decide_eq_true_eq] at hs
  obtain ⟨⟨⟨⟨s1, s2⟩, s3⟩, s4⟩, ⟨s5, s6⟩, s7⟩ := hs
  have inj := fNm_inj s1 s2
  refine ⟨fun x f hl => ?_, fun x f hl => ?_, fun x c hl => ?_, fun x j d hl hd => ?_, fun x hx => ?_, fun x c hl => ?_, inj, fun c f hf => ?_, fun c m f hl => ?_, fun k t hk ht => ?_, fun c hc H a dx fs ha => ?_, fun c f hf => ?_, fun c f hf => ?_, fun x f hl => ?_, fun c m f hl => ?_, fun c f hf => ?_⟩
  · have := List.all_eq_true.mp c1 _ (mem_of_lookup hl)
    exact PySem.W.mg_of X G (He.eqO_ok (He.ba this).1)
  · exact (He.ba (List.all_eq_true.mp c1 _ (mem_of_lookup hl))).2
  · exact (He.ba (List.all_eq_true.mp c2 _ (mem_of_lookup hl))).2
  · have := List.all_eq_true.mp c3 _ (mem_of_lookup hl)
    have hd : h.P.consts[j]? = some d := hd
    simp only [hd] at this
    exact conB_ok rfl X G this
  · exact PySem.W.mg_none_of X G (He.eqO_ok (List.all_eq_true.mp c4 x hx))
  · have := List.all_eq_true.mp c2 _ (mem_of_lookup hl)
    exact PySem.W.mg_of X G (He.eqO_ok (He.ba this).1)
  · have hf : (h.P.fok.getD c []).contains f = true := hf
    have hc : c < h.P.fok.length := getD_lt fun e => by rw [e] at hf; cases hf
    have := List.all_eq_true.mp c5 c (List.mem_range.mpr hc)
    simp only at this
    split at this
    · rename_i e
      rw [e] at hf
      cases hf
    · obtain ⟨k1, k2⟩ := He.ba this
      exact ⟨clsB_ok k1, He.eqO_ok (List.all_eq_true.mp k2 f (by simpa using hf))⟩
  · have hl : (h.P.mth.getD c []).lookup m = some f := hl
    have hc : c < h.P.mth.length := getD_lt fun e => by rw [e] at hl; cases hl
    have := List.all_eq_true.mp c6 c (List.mem_range.mpr hc)
    simp only at this
    have hm := mem_of_lookupN hl
    split at this
    · rename_i e
      rw [e] at hl
      cases hl
    · obtain ⟨k1, k2⟩ := He.ba this
      obtain ⟨m1, m2⟩ := He.ba (List.all_eq_true.mp k2 _ hm)
      obtain ⟨m3, m4⟩ := He.ba m2
      refine ⟨clsB_ok k1, ⟨He.eqO_ok m1, m3, m4⟩, fun g e => ?_⟩
      have hlt : m < h.tx.mnm.length := by
        have h1 := List.all_eq_true.mp s4 (h.P.mth.getD c []) (getD_mem hc)
        exact of_decide_eq_true (List.all_eq_true.mp h1 _ hm)
      have hmm : h.tx.mnm.getD m "" ∈ h.tx.mnm := getD_mem hlt
      have h2 := List.all_eq_true.mp s3 _ hmm
      rw [Bool.and_eq_true, decide_eq_true_eq, Bool.not_eq_true'] at h2
      have e : h.tx.mnm.getD m "" = fNm h.tx.fld g := e
      unfold fNm at e
      split at e
      · rename_i s hg
        have : h.tx.fld.contains s = true := by simpa using List.mem_of_getElem? hg
        rw [e] at h2
        rw [h2.2] at this
        cases this
      · have := congrArg (fun s : Str => s.cps.size) e
        simp at this
        have h3 := h2.1
        simp at h3
        omega
  · have mk : k ∈ kds h.P.sub.length := by
      unfold kds
      cases k with
      | own c =>
        have := of_decide_eq_true (show decide (c < h.P.sub.length) = true from hk)
        exact List.mem_append_left _ (List.mem_map.mpr ⟨c, List.mem_range.mpr this, rfl⟩)
      | ty n =>
        have hn : ["NoneType", "bool", "int", "str", "tuple", "list", "dict"].contains n = true := hk
        exact List.mem_append_right _ (List.mem_map.mpr ⟨n, by simpa using hn, rfl⟩)
    have mt : t ∈ tys h.P.sub.length := by
      unfold tys
      cases t with
      | own c =>
        have := of_decide_eq_true (show decide (c < h.P.sub.length) = true from ht)
        exact List.mem_append_left _ (List.mem_map.mpr ⟨c, List.mem_range.mpr this, rfl⟩)
      | _ => exact List.mem_append_right _ (by decide)
    exact of_decide_eq_true (List.all_eq_true.mp (List.all_eq_true.mp c7 k mk) t mt)
  · have hlt := of_decide_eq_true (show decide (c < h.P.sub.length) = true from hc)
    have := List.all_eq_true.mp c8 c (List.mem_range.mpr hlt)
    obtain ⟨k1, k2⟩ := He.ba this
    obtain ⟨k2, k3⟩ := He.ba k2
    obtain ⟨k3, k4⟩ := He.ba k3
    obtain ⟨k4, k5⟩ := He.ba k4
    exact .ins ha (clsB_ok k1) (of_decide_eq_true k2) (of_decide_eq_true k3) (of_decide_eq_true k4) (of_decide_eq_true k5)
  · have hf : h.P.init.getD c none = some f := hf
    have hc : c < h.P.init.length := getD_lt fun e => by rw [e] at hf; cases hf
    have := List.all_eq_true.mp c9 c (List.mem_range.mpr hc)
    simp only [hf] at this
    exact rdiB_ok (He.ba this).2
  · have hf : h.P.init.getD c none = some f := hf
    have hc : c < h.P.init.length := getD_lt fun e => by rw [e] at hf; cases hf
    have := List.all_eq_true.mp c9 c (List.mem_range.mpr hc)
    simp only [hf] at this
    obtain ⟨k1, k2⟩ := He.ba (He.ba this).1
    obtain ⟨k2, k3⟩ := He.ba k2
    obtain ⟨k3, k4⟩ := He.ba k3
    exact ⟨k1, He.eqO_ok k2, k3, k4⟩
  · exact Option.isNone_iff_eq_none.mp (List.all_eq_true.mp s5 _ (mem_of_lookup hl))
  · have hl : (h.P.mth.getD c []).lookup m = some f := hl
    have hc : c < h.P.mth.length := getD_lt fun e => by rw [e] at hl; cases hl
    exact Option.isNone_iff_eq_none.mp (List.all_eq_true.mp (List.all_eq_true.mp s6 _ (getD_mem hc)) _ (mem_of_lookupN hl))
  · have hf : h.P.init.getD c none = some f := hf
    have hc : c < h.P.init.length := getD_lt fun e => by rw [e] at hf; cases hf
    have hm : some f ∈ h.P.init := by rw [← hf]; exact getD_mem hc
    exact Option.isNone_iff_eq_none.mp (List.all_eq_true.mp s7 _ hm)
end Co

set_option linter.all false
set_option maxRecDepth 100000
set_option Elab.async false
/-! Co28: the hook, and the end. -/
namespace Co
open PySem L2
/-! ### the part of the heap: no list within -/
def notL (o : Obj) : Bool := match o.cls with
  | .type n => !(n == "list")
  | _ => true
def frC (g : Addr → Option Obj) (as : List Addr) : PySem.W.Frag := (He.frG g as).filter fun p => notL p.2 && !He.emptyTab p.2
theorem lookup_mem {K : PySem.W.Frag} {a : Addr} {o : Obj} (h : K.lookup a = some o) : (a, o) ∈ K := mem_of_lookupN h
theorem frG_mem {g : Addr → Option Obj} {as : List Addr} {a : Addr} {o : Obj} (h : (a, o) ∈ He.frG g as) : g a = some o := by
  unfold He.frG at h
  obtain ⟨b, _, h2⟩ := List.mem_filterMap.mp h
  obtain ⟨o2, h3, h4⟩ := Option.map_eq_some_iff.mp h2
  cases h4
  exact h3
theorem frC_in {as : List Addr} {h : Heap} : (frC h.get? as).In h := fun a o e => frG_mem (List.mem_filter.mp (lookup_mem e)).1
def NoL (K : PySem.W.Frag) : Prop := ∀ a o, K.lookup a = some o → o.cls ≠ .type "list"
theorem frC_noL {g : Addr → Option Obj} {as : List Addr} : NoL (frC g as) := fun a o e z => by
  have h := (List.mem_filter.mp (lookup_mem e)).2
  rw [Bool.and_eq_true] at h
  have h := h.1
  simp only [notL, z] at h
  simp at h
def obsC (h : Hs) (K : PySem.W.Frag) : He.AlD := ((h.ok K && h.okT K) && h.dd.all fun d => d.ok K, h.dd.map fun d => He.fnW K d.at_)
def SaysC (h : Hs) (K : PySem.W.Frag) : Prop := obsC h K = He.valD h.dd
/-- the makers' tables: empty, not in K -/
structure Empt (h : Hs) (K : PySem.W.Frag) (hp : Heap) : Prop where
  at_ : ∀ z ∈ h.cs K, hp.get? z.2 = some { cls := .none, data := .fields #[] }
  out : ∀ z ∈ h.cs K, K.lookup z.2 = none
theorem frC_none {g : Addr → Option Obj} {as : List Addr} {a : Addr} {o : Obj} (e : g a = some o) (ht : He.emptyTab o = true) : (frC g as).lookup a = none := by
  cases q : (frC g as).lookup a with
  | none => rfl
  | some u =>
    obtain ⟨h1, h2⟩ := List.mem_filter.mp (lookup_mem q)
    have h3 := frG_mem h1
    rw [e] at h3
    rw [Bool.and_eq_true] at h2
    have h4 : (!He.emptyTab u) = true := h2.2
    rw [← Option.some.inj h3, ht] at h4
    cases h4
/-- over written addresses -/
def obsCA (as : List Addr) (h : Hs) (g : Addr → Option Obj) : He.AlD := ((obsC h (frC g as)).1 && (h.cs (frC g as)).all fun z => match g z.2 with
  | some o => He.emptyTab o
  | none => false, (obsC h (frC g as)).2)
theorem says_of {as : List Addr} {h : Hs} {hp : Heap} (e : obsCA as h hp.get? = He.valD h.dd) : SaysC h (frC hp.get? as) ∧ Empt h (frC hp.get? as) hp := by
  have e1 : ((obsC h (frC hp.get? as)).1 && (h.cs (frC hp.get? as)).all fun z => match hp.get? z.2 with
    | some o => He.emptyTab o
    | none => false) = true := congrArg (fun z : He.AlD => z.1) e
  have e2 : (obsC h (frC hp.get? as)).2 = h.dd.map He.DefD.val := congrArg (fun z : He.AlD => z.2) e
  obtain ⟨h1, h2⟩ := He.ba e1
  have key : ∀ z ∈ h.cs (frC hp.get? as), ∃ o, hp.get? z.2 = some o ∧ He.emptyTab o = true := fun z hz => by
    have h3 := List.all_eq_true.mp h2 z hz
    split at h3
    · rename_i o q
      exact ⟨o, q, h3⟩
    · cases h3
  refine ⟨Prod.ext h1 e2, fun z hz => ?_, fun z hz => ?_⟩
  · obtain ⟨o, q, k⟩ := key z hz
    rw [q, He.emptyTab_eq k]
  · obtain ⟨o, q, k⟩ := key z hz
    exact frC_none q k
def hookA (as : List Addr) (h : Hs) : PySem.W.Hook where
  α := He.AlD
  obs := fun s => obsCA as h s.heap.get?
  val := fun _ => He.valD h.dd
  says := fun _ hp => ∃ K : PySem.W.Frag, K.In hp ∧ NoL K ∧ SaysC h K ∧ Empt h K hp
  of := fun _ _ e => ⟨_, frC_in, frC_noL, says_of e⟩
  keeps := fun _ _ _ ⟨K, hK, n, c, m⟩ k => ⟨K, PySem.W.Frag.In.keeps hK k, n, c, fun z hz => k _ _ (m.at_ z hz), m.out⟩
theorem obsCA_eq {as : List Addr} {h : Hs} {g : Addr → Option Obj} {s : Shared} (e : ∀ a, g a = s.heap.get? a) : obsCA as h g = (hookA as h).obs s := by
  have e : g = s.heap.get? := funext e
  rw [e] <;> rfl
theorem SaysC.ok {h : Hs} {K : PySem.W.Frag} (c : SaysC h K) : h.ok K = true := (He.ba (He.ba (congrArg (fun z : He.AlD => z.1) c)).1).1
theorem SaysC.okT {h : Hs} {K : PySem.W.Frag} (c : SaysC h K) : h.okT K = true := (He.ba (He.ba (congrArg (fun z : He.AlD => z.1) c)).1).2
theorem SaysC.def_ {h : Hs} {K : PySem.W.Frag} (c : SaysC h K) {i : Nat} {d : He.DefD} (hi : h.dd[i]? = some d) : ∃ fd, FunD K d.name d.qual d.params d.body d.scope (d.dvs K) (d.kws K) (h.fA K i) fd := by
  have c2 := (He.ba (show ((h.ok K && h.okT K) && h.dd.all fun d => d.ok K) = true from congrArg (fun z : He.AlD => z.1) c)).2
  have e : h.dd.map (fun d => He.fnW K d.at_) = h.dd.map He.DefD.val := congrArg (fun z : He.AlD => z.2) c
  have e2 : (h.dd.map fun d => He.fnW K d.at_)[i]? = (h.dd.map He.DefD.val)[i]? := by rw [e]
  rw [List.getElem?_map, List.getElem?_map, hi] at e2
  have ea : h.fA K i = He.fAd K d.at_ := by unfold Hs.fA; rw [hi]
  rw [ea]
  exact He.DefD.funD (Option.some.inj e2) (List.all_eq_true.mp c2 d (List.mem_of_getElem? hi))
/-! ### what is fixed of a def -/
def scB (N P : List Str) (sc : Scope) : Bool := (match sc.kind with
    | .function => true
    | _ => false) && !sc.isCoroutine && !sc.isGenerator && decide N.Nodup && decide (N.take P.length = P) && (P.all fun x => locB sc x) && sc.names.all fun y => match y.2 with
    | .free => false
    | _ => true
theorem scB_ok {N P : List Str} {sc : Scope} (h : scB N P sc = true) : FnScope N P sc := by
  unfold scB at h
  simp only [Bool.and_eq_true, Bool.not_eq_true', decide_eq_true_eq] at h
  obtain ⟨⟨⟨⟨⟨⟨h1, h2⟩, h3⟩, h4⟩, h5⟩, h6⟩, h7⟩ := h
  refine ⟨?_, h2, h3, h4, h5, fun x hx => ?_, fun y hy e => ?_⟩
  · split at h1
    · assumption
    · cases h1
  · have := List.all_eq_true.mp h6 x hx
    unfold locB at this
    split at this
    · exact .inl (by assumption)
    · exact .inr (by assumption)
    · cases this
  · have := List.all_eq_true.mp h7 y hy
    rw [e] at this
    cases this
/-- how values are bound to a def's parameters -/
def Bd (d : He.DefD) (ps : List Str) : Prop :=
  (d.dfl = [] → ∀ (kV doc pm : Value) (an : Option Addr) (cdv ct : Value) (us : List Value), us.length = ps.length → bindArgs (PySem.W.fnOf d.name d.qual d.params d.body d.scope .none kV doc pm an cdv ct) ⟨us, []⟩ = pure (ps.zip us)) ∧
  (d.dfl ≠ [] → ∀ n j, n + (d.dfl.length - j) = ps.length → j ≤ d.dfl.length → ∀ (T : Addr) (kV doc pm : Value) (an : Option Addr) (cdv ct : Value) (us its : List Value), us.length = n → its.length = d.dfl.length →
      ∃ k, bindArgs (PySem.W.fnOf d.name d.qual d.params d.body d.scope (.ref T) kV doc pm an cdv ct) ⟨us, []⟩ = seqItems? (.ref T) >>= k ∧ k (some its.toArray) = pure (ps.zip (us ++ its.drop j)))
structure DSt (h : Hs) (f : Nat) (F : FnT) : Prop where
  ex : ∃ (d : He.DefD) (N ps : List Str) (lm : Option Str), h.dd[f]? = some d ∧ d.dfl = (h.dfl.getD f []).map dDv ∧ (h.dfl.getD f []).all D.lit = true ∧ (h.dfl.getD f []).length ≤ ps.length ∧ scB N ps d.scope = true ∧ F.np = ps.length ∧ F.nv = N.length ∧
    (∀ K n, (okS { (h.q K).at n with lm := lm } N F.body).l d.scope d.body = true) ∧ Bd d ps ∧ ∀ ql, lm = some ql → (f, ql) ∈ h.mks ∧ ql = d.qual ++ ".<locals>." ++ "<lambda>"
theorem def_is {h : Hs} {K : PySem.W.Frag} {f : Nat} {F : FnT} {d : He.DefD} {N ps : List Str} {lm : Option Str} {fd : FuncData} (hT : h.okT K = true) (hd : h.dd[f]? = some d) (hf : FunD K d.name d.qual d.params d.body d.scope (d.dvs K) (d.kws K) (h.fA K f) fd) (h2 : d.dfl = (h.dfl.getD f []).map dDv) (h3 : (h.dfl.getD f []).all D.lit = true)
    (h3' : (h.dfl.getD f []).length ≤ ps.length) (h4 : scB N ps d.scope = true) (h5 : F.np = ps.length) (h6 : F.nv = N.length) (h7 : ∀ K n, (okS { (h.q K).at n with lm := lm } N F.body).l d.scope d.body = true) (h8 : Bd d ps) (h9 : ∀ ql, lm = some ql → (f, ql) ∈ h.mks ∧ ql = d.qual ++ ".<locals>." ++ "<lambda>") : DefIs (h.q K) (h.cs K) f F fd ps := by
  have hmk : ∀ ql, lm = some ql → MkD (h.q K) (h.cs K) d.qual fd ql := fun ql hq => by
    obtain ⟨m1, m2⟩ := h9 ql hq
    obtain ⟨oc, od, dV, kV, doc, pm, an, cdv, ct, osl, rfl, lk, hcd, _, _⟩ := hf.ex
    obtain ⟨c, rfl⟩ := He.codeIn_ref hcd
    have ea : h.fA K f = He.fAd K d.at_ := by unfold Hs.fA; rw [hd]
    have lk : K.lookup (h.fA K f) = _ := lk
    rw [ea] at lk
    have ec : He.codeOf K d.at_ = c := He.codeOf_eq lk rfl
    have eT : h.cT K f = He.cT K d.at_ := by unfold Hs.cT; rw [hd]
    have e1 : (h.cT K f).1 = c := by rw [eT]; exact ec
    have hin : ((h.cT K f).2, ql) ∈ h.tb K := List.mem_map.mpr ⟨_, m1, rfl⟩
    refine ⟨m2, c, (h.cT K f).2, rfl, ?_, hin, fun z hz e => ?_⟩
    · exact List.mem_map.mpr ⟨_, m1, Prod.ext e1 rfl⟩
    · have h2 := List.all_eq_true.mp (List.all_eq_true.mp (He.ba hT).2 z hz) _ hin
      simp only [Bool.or_eq_true, Bool.not_eq_true', decide_eq_true_eq, decide_eq_false_iff_not] at h2
      rcases h2 with h2 | h2
      · exact absurd e h2
      · exact h2
  refine ⟨d.name, d.qual, d.params, d.body, d.scope, d.dvs K, d.kws K, N, lm, hf, scB_ok h4, h5, h6, fun n => h7 K n, hmk, fun dv hdv => ?_⟩
  have hdv' : (decide ((h.dfl.getD f []).drop ((h.dfl.getD f []).length - dv.length) = dv) && dv.all D.lit) = true := hdv
  rw [Bool.and_eq_true, decide_eq_true_eq] at hdv'
  obtain ⟨e1, e2⟩ := hdv'
  have ev : d.dvs K = (h.dfl.getD f []).map dV := by
    unfold He.DefD.dvs
    rw [h2, dvs_lit h3]
  by_cases hz : d.dfl = []
  · have e0 : h.dfl.getD f [] = [] := by
      rw [hz] at h2
      exact List.map_eq_nil_iff.mp h2.symm
    rw [e0] at e1
    have e3 : dv = [] := by rw [← e1]; simp
    subst e3
    have ev2 : d.dvs K = [] := by rw [ev, e0]; rfl
    rw [ev2] at hf
    exact ⟨[], .nil, hf.bindsN (h8.1 hz)⟩
  · have hne : d.dvs K ≠ [] := by
      unfold He.DefD.dvs
      simpa using hz
    have hl : (d.dvs K).length = d.dfl.length := by
      unfold He.DefD.dvs
      simp
    have hl2 : (h.dfl.getD f []).length = d.dfl.length := by rw [h2, List.length_map]
    have hle : dv.length ≤ d.dfl.length := by
      have := congrArg List.length e1
      rw [List.length_drop] at this
      omega
    have hps : d.dfl.length ≤ ps.length := by rw [← hl2]; exact h3'
    obtain ⟨ds, k1, k2⟩ := hf.binds1 (ps := ps) (ps.length - dv.length) (d.dfl.length - dv.length) hne (by rw [hl]; omega) (by
      have := h8.2 hz (ps.length - dv.length) (d.dfl.length - dv.length) (by omega) (by omega)
      rw [hl]
      exact this)
    refine ⟨ds, ?_, k2⟩
    have e4 : (d.dvs K).drop (d.dfl.length - dv.length) = dv.map dV := by
      rw [ev, ← hl2, ← List.map_drop, e1]
    rw [← e4]
    exact k1
theorem def_ok {h : Hs} {K : PySem.W.Frag} (c : SaysC h K) {f : Nat} {F : FnT} (s : DSt h f F) : DefOk (h.q K) (h.cs K) f F := by
  obtain ⟨d, N, ps, lm, h1, h2, h3, h3', h4, h5, h6, h7, h8, h9⟩ := s.ex
  obtain ⟨fd, hf⟩ := c.def_ h1
  exact ⟨fd, ps, def_is c.okT h1 hf h2 h3 h3' h4 h5 h6 h7 h8 h9⟩
/-- a lambda's names -/
def lamScB (L : LamD) (x : Str) : Bool := (match L.sc.kind with
    | .function => true
    | _ => false) && !L.sc.isCoroutine && !L.sc.isGenerator && (L.sc.names.all fun y => !decide (y.2 = .cell)) && decide (L.sc.names.lookup x = some .local) && (L.sc.names.all fun y => !decide (y.2 = .free) || L.cap.contains y.1) && (L.cap.all fun y => decide (L.sc.names.lookup y = some .free)) && decide (L.cap ++ [x]).Nodup
theorem lamScB_ok {L : LamD} {x : Str} (h : lamScB L x = true) : LamSc L x := by
  unfold lamScB at h
  simp only [Bool.and_eq_true, Bool.not_eq_true', decide_eq_true_eq] at h
  obtain ⟨⟨⟨⟨⟨⟨⟨h1, h2⟩, h3⟩, h4⟩, h5⟩, h6⟩, h7⟩, h8⟩ := h
  refine ⟨?_, h2, h3, fun y hy => ?_, h5, fun y hy e => ?_, fun y hy => of_decide_eq_true (List.all_eq_true.mp h7 y hy), h8⟩
  · split at h1
    · assumption
    · cases h1
  · have := List.all_eq_true.mp h4 y hy
    simpa using this
  · have := List.all_eq_true.mp h6 y hy
    rw [e] at this
    simpa using this
/-- what is fixed of an entry of the table: a def, a lambda -/
inductive ESt (h : Hs) (f : Nat) (F : FnT) : Prop
  | d : h.lams.lookup f = none → DSt h f F → ESt h f F
  | l {L : LamD} {x : Str} {e : CE} : h.lams.lookup f = some L → lamScB L x = true → (∀ cs pm c ctv u, bindArgs (PySem.W.kla_fn "<lambda>" L.qual L.ps L.body L.sc cs pm (.ref c) ctv) ⟨[u], []⟩ = pure [(x, u)]) → F = ⟨L.cap.length + 1, L.cap.length + 1, .ret e⟩ →
      (∀ K n, okE ((h.q K).at n) (L.cap ++ [x]) e none false L.sc L.body = true) → ESt h f F
theorem tab_ok {h : Hs} {K : PySem.W.Frag} (c : SaysC h K) (hd : ∀ f F, h.P.fns[f]? = some F → ESt h f F) : TabOk (h.q K) (h.cs K) := by
  intro f F hF
  have hF : h.P.fns[f]? = some F := hF
  refine ⟨fun hl => ?_, fun L hl => ?_⟩
  · have hl : h.lams.lookup f = none := hl
    cases hd f F hF with
    | d _ s => exact def_ok c s
    | l h1 => rw [hl] at h1; cases h1
  · have hl : h.lams.lookup f = some L := hl
    cases hd f F hF with
    | d h1 => rw [hl] at h1; cases h1
    | l h1 h2 h3 h4 h5 =>
      rw [hl] at h1
      cases h1
      exact ⟨_, _, lamScB_ok h2, h3, h4, fun n => h5 K n⟩
theorem FnOk.cx0 {P : Program} {w : World} {K : PySem.W.Frag} {mg : Str → Option Value} {base : Heap} {k : Nat} {f : Addr} {fd : FuncData} {ps : List Str} {sp : Sp} (F : FnOk P w K mg base (L2.CX P w) k f fd ps sp) :
    FnOk P w K mg base (fun _ _ _ _ _ _ => False) k f fd ps (fun vs H Q _ => sp vs H Q fun _ _ _ => False) := by
  refine ⟨fun vs H Q E h => F.len vs H Q _ h, fun A outer s H args us vs Q E hr he hb hv h => ?_⟩
  refine codeAny_mono (F.run A outer s H args us vs Q _ hr he hb hv h) fun r s' q => ?_
  cases r with
  | error e =>
    obtain ⟨_, _, _, _, _, _, _, _, _, _, _, _, z⟩ := q
    exact z.elim
  | ok fl => cases fl <;> exact q
/-! ### the end -/
/-- the law holds of all scripts that may be handed to it, if the evaluator says so -/
theorem sp_law {h : Hs} {K : PySem.W.Frag} (nl : NoL K) {n f : Nat} {H : Hp} {a : Addr} {ns : List Int} (hT : ∀ z ∈ h.tb K, H z.1 = some (.tbl #[])) (hS : SqL K H a (ns.map V.int)) (hrun : ∃ μ, run h.P n f [.lst (ns.map D.int)] [] = .ok (.bl true) μ) :
    spC ((h.q K).at n).T ((h.q K).at n).call f [.ref a] H (fun v _ => v = .bl true) (fun _ _ _ => False) := by
  obtain ⟨μ, hrun⟩ := hrun
  have hR : Rd H a (.lst (ns.map V.int)) := by
    rcases hS with h | ⟨o, its, m, e1, e2, _⟩
    · exact h
    · exact absurd e2 (nl a o e1)
  have hrl : ∀ u, H a = some u → rl u = u := fun u e => by
    rcases hR with z | ⟨o, z⟩ <;> rw [z] at e <;> cases e <;> rfl
  have nop : ∀ b (u : HO), (fun b => if b = a then H a else none) b = some u → b = a ∧ H a = some u := fun b u e => by
    by_cases q : b = a
    · exact ⟨q, by simpa [q] using e⟩
    · simp [q] at e
  refine ⟨[], fun b => if b = a then H a else none, [], [.lst (ns.map D.int)], ⟨⟨fun b u e => ?_⟩, rfl, List.nodup_nil, fun b hb => (by cases hb), ⟨fun p hp => ?_, fun b L cs pm c ctv e => ?_, fun b o v _ _ hb => (by cases hb), fun z hz => ?_⟩, fun i b c e1 e2 => (by simp at e1)⟩, .cons (.lst ?_ RepL.ints) .nil, ?_⟩
  · obtain ⟨rfl, e⟩ := nop b u e
    rw [e, hrl u e]
  · exact .nil (hT p hp)
  · obtain ⟨rfl, e⟩ := nop b _ e
    exact absurd rfl (not_pin (hrl _ e) _)
  · show (if z.1 = a then H a else none) = none
    refine if_neg fun q => ?_
    have := hT z hz
    rw [q] at this
    rcases hR with y | ⟨o, y⟩ <;> rw [y] at this <;> cases this
  · rcases hR with y | ⟨o, y⟩
    · exact .inl (by simp only [if_pos rfl]; exact y)
    · exact .inr ⟨o, by simp only [if_pos rfl]; exact y⟩
  · show Ct _ _ _ _ _ (run h.P n f [.lst (ns.map D.int)] []) _
    rw [hrun]
    intro v ι' G' H' g R rv
    cases rv
    rfl
/-- .. told to the walk's end -/
theorem law_facts {h : Hs} {l : PySem.W.OpenLaw} {w : World} {mg : Str → Option Value} {hp : Heap} {fa : Addr} {x : Str} {n f most : Nat} {F : FnT} (Y : ∃ K : PySem.W.Frag, K.In hp ∧ NoL K ∧ SaysC h K ∧ Empt h K hp) (G : hp.Ns mainGlobals mg) (hs : h.st = true)
    (hd : ∀ f F, h.P.fns[f]? = some F → ESt h f F) (hF : h.P.fns[f]? = some F) {d : He.DefD} {N : List Str} (h1 : h.dd[f]? = some d) (h2 : h.dfl.getD f [] = []) (h2' : d.dfl = []) (h2k : d.kwd = []) (h4 : scB N [x] d.scope = true) (h5 : F.np = 1) (h6 : F.nv = N.length)
    (h7 : ∀ K n, (okS { (h.q K).at n with lm := none } N F.body).l d.scope d.body = true) (h8 : Bd d [x]) (hfa : ∀ K, K.In hp → SaysC h K → fa = h.fA K f) (hrun : ∀ ns : List Int, ns.length ≤ most → ∃ μ, run h.P (n + 1) f [.lst (ns.map D.int)] [] = .ok (.bl true) μ) :
    ∃ K : PySem.W.Frag, K.In hp ∧ LamX.LawAtS l w K (fun _ _ _ _ _ _ => False) (2 * (n + 1)) most x mg fa hp := by
  obtain ⟨K, hK, nl, c, hE⟩ := Y
  obtain ⟨fd, hf⟩ := c.def_ h1
  have e := hfa K hK c
  subst e
  have hdv : d.dvs K = [] := by unfold He.DefD.dvs; rw [h2']; rfl
  have hkw : d.kws K = [] := by unfold He.DefD.kws; rw [h2k]; rfl
  have hf' := hf
  rw [hdv] at hf'
  have b := hf'.bindsA (ps := [x]) (h8.1 h2')
  refine ⟨K, hK, fd, h.cs K, fun vs H Q _ => spC (h.T K) (run h.P (n + 1)) f vs H Q fun _ _ _ => False, hE.at_, hE.out, fun z hz => PySem.W.codeHd_of_K hK (List.all_eq_true.mp (He.ba c.okT).1 z hz), fun s u => b s [u] rfl, fun H a ns hl _ hT hS => sp_law (h := h) nl (fun z hz => ?_) hS (hrun ns hl), fun base hb hG hcs => ?_⟩
  · obtain ⟨p, hp, e⟩ := List.mem_map.mp hz
    rw [← e]
    exact hT _ (List.mem_map.mpr ⟨p, hp, rfl⟩)
  · refine FnOk.cx0 ?_
    exact fn_step (q := h.q K) (lk_of hK G hs c.ok) hcs (fn_all (q := h.q K) (lk_of hK G hs c.ok) hcs (tab_ok c hd) n) hF (def_is (ps := [x]) (lm := none) c.okT h1 hf (by rw [h2, h2']; rfl) (by rw [h2]; rfl) (by rw [h2]; exact Nat.zero_le _) h4 h5 h6 h7 h8 fun ql z => by cases z)
end Co

set_option linter.all false
set_option maxRecDepth 100000
/-! Cm1: more equations of the evaluator, for proofs. -/
namespace Co
open PySem L2
section
variable (μ : Store) (i j : Int) (x y : Str) (b c : Bool) (xs ys : List D) (n : Nat) (d e : D) (t : Bool) (kvs : List (D × D)) (fs : List (Nat × D)) (r : Env)
theorem atI_nat' {α : Type} (xs : List α) (n : Nat) : atI xs (n : Int) = xs[n]? := by
  unfold atI ixN
  rw [if_pos (by omega)]
  by_cases h : n < xs.length
  · rw [if_pos (by omega)]; simp
  · rw [if_neg (by omega)]; simp; omega
theorem atI_zero {α : Type} (xs : List α) : atI xs 0 = xs[0]? := atI_nat' xs 0
theorem atI_one {α : Type} (xs : List α) : atI xs 1 = xs[1]? := atI_nat' xs 1
theorem atI_lit {α : Type} (xs : List α) (n : Nat) : atI xs (OfNat.ofNat n : Int) = xs[n]? := atI_nat' xs n
@[simp] theorem ixS_lst : ixS μ (.lst xs) (.int i) = ofO (atI xs i) μ := (rfl)
@[simp] theorem ixS_tup : ixS μ (.tup xs) (.int i) = ofO (atI xs i) μ := (rfl)
@[simp] theorem ixS_wtup : ixS μ (.wtup xs) (.int i) = ofO (atI xs i) μ := (rfl)
theorem ixS_str (h : sz x.length = true) : ixS μ (.str x) (.int i) = ofO ((atI x.cps.toList i).map fun c => .str ⟨#[c]⟩) μ := if_pos h
theorem ixS_dic (h : keyB t e = true) : ixS μ (.dic t kvs) e = ofO (kfind kvs e) μ := if_pos h
theorem lstOf_c {μ : Store} {n : Nat} {xs : List D} (h : μ[n]? = some (.lst xs)) : lstOf μ (.cell n) = some xs := by simp [lstOf, h]
theorem dicOf_c {μ : Store} {n : Nat} {t : Bool} {kvs : List (D × D)} (h : μ[n]? = some (.dic t kvs)) : dicOf μ (.cell n) = some (t, kvs) := by simp [dicOf, h]
theorem dicOf_cl {μ : Store} {n : Nat} {xs : List D} (h : μ[n]? = some (.lst xs)) : dicOf μ (.cell n) = none := by simp [dicOf, h]
theorem insOf_c {μ : Store} {n c : Nat} {fs : List (Nat × D)} (h : μ[n]? = some (.ins c fs)) : insOf μ (.cell n) = some (c, fs) := by simp [insOf, h]
theorem ixS_cl {μ : Store} {n : Nat} {xs : List D} (h : μ[n]? = some (.lst xs)) (i : Int) : ixS μ (.cell n) (.int i) = ofO (atI xs i) μ := by
  have e : seqOf μ (.cell n) = some xs := lstOf_c h
  simp [ixS, dicOf_cl h, e]
theorem ixS_cd {μ : Store} {n : Nat} {t : Bool} {kvs : List (D × D)} (h : μ[n]? = some (.dic t kvs)) {k : D} (hk : keyB t k = true) : ixS μ (.cell n) k = ofO (kfind kvs k) μ := by
  simp [ixS, dicOf_c h, hk]
theorem lenC {μ : Store} {n : Nat} {xs : List D} (h : μ[n]? = some (.lst xs)) : biS μ .len [.cell n] = .ok (.int xs.length) μ := by
  have e : seqOf μ (.cell n) = some xs := lstOf_c h
  simp [biS, lenOf, e]
theorem lenS (h : sz x.length = true) : biS μ .len [.str x] = .ok (.int x.length) μ := by simp [biS, lenOf, h]
/-- a store as long as before is as it is -/
theorem leave_len {μ μ' : Store} {d : D} (h : μ'.length = μ.length) : leave μ (.ok d μ') = .ok d μ' := by
  unfold leave
  have e : μ'.take μ.length = μ' := by rw [← h]; exact List.take_length
  simp only [e]
  split <;> rfl
@[simp] theorem leave_same (μ : Store) (d : D) : leave μ (.ok d μ) = .ok d μ := leave_len rfl
@[simp] theorem leave_set (μ : Store) (i : Nat) (c : Cell) (d : D) : leave μ (.ok d (μ.set i c)) = .ok d (μ.set i c) := leave_len List.length_set
theorem mulB_of {i j : Int} {a b : Nat} (ha : i.natAbs < 2 ^ a) (hb : j.natAbs < 2 ^ b) (h0 : 0 < a) (h1 : 0 < b) (h : a + b ≤ 1000000) : mulB i j = true := decide_eq_true (wide_mul ha hb h0 h1 h)
/-- both below 2 ^ 512 -/
theorem mulB_s {i j : Int} (h1 : -(2 ^ 512) < i) (h2 : i < 2 ^ 512) (h3 : -(2 ^ 512) < j) (h4 : j < 2 ^ 512) : mulB i j = true := mulB_of (a := 512) (b := 512) (by omega) (by omega) (by decide) (by decide) (by decide)
theorem divB_s {j : Int} (h1 : 0 < j) (h2 : j < 2 ^ 512) : divB j = true := by
  have h := wide_div (i := 0) (b := 512) h1 (by omega) (by decide) (by decide)
  exact decide_eq_true h
end
end Co
namespace Co
open PySem L2
theorem len_app (a b : Str) : (a ++ b).length = a.length + b.length := by rw [TL.len_tl, TL.tl_append, List.length_append, ← TL.len_tl, ← TL.len_tl]
theorem sz_of {n : Nat} (h : n ≤ 1000000) : sz n = true := decide_eq_true (Nat.le_trans h (by decide))
theorem mul_tl (a : Str) (n : Int) : TL.tl (Txt.mul a n) = (List.replicate n.toNat (TL.tl a)).flatten := by
  have main : ∀ (m : Nat) (x : Array Nat), ((List.replicate m a.cps).foldl (· ++ ·) x).toList = x.toList ++ (List.replicate m (TL.tl a)).flatten := fun m => by
    induction m with
    | zero => intro x; simp
    | succ m ih =>
      intro x
      rw [List.replicate_succ, List.foldl_cons, ih, List.replicate_succ, List.flatten_cons, Array.toList_append]
      simp [TL.tl]
  unfold Txt.mul
  split
  · rename_i h
    rw [show n.toNat = 0 by omega]
    rfl
  · rename_i h
    split
    · rename_i h2
      simp only [Bool.or_eq_true, beq_iff_eq] at h2
      rcases h2 with h2 | h2
      · subst h2
        simp
      · have e : TL.tl a = [] := by
          rw [TL.len_tl] at h2
          exact List.length_eq_zero_iff.mp h2
        rw [e]
        simp
    · show (Array.toList _) = _
      rw [main]
      simp
theorem mul_len (a : Str) (n : Int) : (Txt.mul a n).length = n.toNat * a.length := by
  rw [TL.len_tl, mul_tl]
  simp [TL.len_tl]
theorem len_one (c : Nat) : (⟨#[c]⟩ : Str).length = 1 := rfl
end Co
namespace Co
open PySem L2
theorem binS_muls (μ : Store) (a : Str) (n : Int) (h : mulSB a n = true) : binS μ .mul (.str a) (.int n) = .ok (.str (Txt.mul a n)) μ := if_pos h
end Co
namespace Co
open PySem L2
theorem bm_app {μ : Store} {i : Nat} {xs : List D} (h : μ[i]? = some (.lst xs)) (hz : sz (xs.length + 1) = true) (d : D) : bmS μ .append (.cell i) [d] = .ok .non (μ.set i (.lst (xs ++ [d]))) := by simp [bmS, h, hz]
theorem bm_ext {μ : Store} {i : Nat} {xs ys : List D} {d : D} (h : μ[i]? = some (.lst xs)) (h2 : lstOf μ d = some ys) (hz : sz (xs.length + ys.length) = true) : bmS μ .extend (.cell i) [d] = .ok .non (μ.set i (.lst (xs ++ ys))) := by simp [bmS, h, h2, hz]
theorem bmT_app {μ : Store} {i : Nat} {xs : List D} (h : μ[i]? = some (.lst xs)) : bmTy μ .append (.cell i) = true := by simp [bmTy, lstOf, h]
theorem bmT_ext {μ : Store} {i : Nat} {xs : List D} (h : μ[i]? = some (.lst xs)) : bmTy μ .extend (.cell i) = true := by simp [bmTy, lstOf, h]
theorem bmT_clear {μ : Store} {i : Nat} {xs : List D} (h : μ[i]? = some (.lst xs)) : bmTy μ .clear (.cell i) = true := by simp [bmTy, lstOf, h]
theorem bm_clr {μ : Store} {i : Nat} {xs : List D} (h : μ[i]? = some (.lst xs)) : bmS μ .clear (.cell i) [] = .ok .non (μ.set i (.lst [])) := by simp [bmS, h]
theorem bmT_getc {μ : Store} {i : Nat} {t : Bool} {kvs : List (D × D)} (h : μ[i]? = some (.dic t kvs)) : bmTy μ .get (.cell i) = true := by simp [bmTy, dicOf, h]
theorem bm_get1 {μ : Store} {d : D} {t : Bool} {kvs : List (D × D)} (h : dicOf μ d = some (t, kvs)) {k : D} (hk : keyB t k = true) : bmS μ .get d [k] = .ok ((kfind kvs k).getD .non) μ := by simp [bmS, h, hk]
theorem bm_get2 {μ : Store} {d e : D} {t : Bool} {kvs : List (D × D)} (h : dicOf μ d = some (t, kvs)) {k : D} (hk : keyB t k = true) : bmS μ .get d [k, e] = .ok ((kfind kvs k).getD e) μ := by simp [bmS, h, hk]
theorem setIx_d {μ : Store} {i : Nat} {t : Bool} {kvs : List (D × D)} (h : μ[i]? = some (.dic t kvs)) {k : D} (hk : keyB t k = true) (hz : sz (kvs.length + 1) = true) (v : D) : setIx μ (.cell i) k v = some (μ.set i (.dic t (kput kvs k v))) := by simp [setIx, h, hk, hz]
theorem setIx_l {μ : Store} {c : Nat} {xs : List D} (h : μ[c]? = some (.lst xs)) {j : Nat} (hj : j < xs.length) (v : D) : setIx μ (.cell c) (.int (j : Int)) v = some (μ.set c (.lst (xs.set j v))) := by
  have e : ixN xs.length (j : Int) = some j := Evl.ixN_nat hj
  simp [setIx, h, e]
theorem setFld_i {fok : List (List Nat)} {μ : Store} {i c f : Nat} {fs : List (Nat × D)} (h : μ[i]? = some (.ins c fs)) (hf : fokB fok c f = true) (hl : fs.length < 900) (v : D) : setFld fok μ (.cell i) f v = some (μ.set i (.ins c (fput fs f v))) := by simp [setFld, h, hf, hl]
@[simp] theorem keyB_fs (x : Str) : keyB false (.str x) = true := (rfl)
@[simp] theorem keyB_fi (i : Int) : keyB false (.int i) = true := (rfl)
@[simp] theorem keyB_t2 (x y : Str) : keyB true (.tup [.str x, .str y]) = true := (rfl)
@[simp] theorem keyB_t3 (x : Str) (i : Int) : keyB true (.tup [.str x, .int i]) = true := (rfl)
end Co
/-! ### views of cells, as equations -/
namespace Co
open PySem L2
def cL : Option Cell → Option (List D)
  | some (.lst xs) => some xs
  | _ => none
def cD : Option Cell → Option (Bool × List (D × D))
  | some (.dic t kvs) => some (t, kvs)
  | some (.ldic t kvs) => some (t, kvs)
  | _ => none
def cI : Option Cell → Option (Nat × List (Nat × D))
  | some (.ins c fs) => some (c, fs)
  | _ => none
section
variable (μ : Store) (i c : Nat) (xs : List D) (t : Bool) (kvs : List (D × D)) (fs : List (Nat × D)) (d e : D)
@[simp] theorem cL_lst : cL (some (.lst xs)) = some xs := (rfl)
@[simp] theorem cL_dic : cL (some (.dic t kvs)) = none := (rfl)
@[simp] theorem cL_ins : cL (some (.ins c fs)) = none := (rfl)
@[simp] theorem cD_lst : cD (some (.lst xs)) = none := (rfl)
@[simp] theorem cD_dic : cD (some (.dic t kvs)) = some (t, kvs) := (rfl)
@[simp] theorem cD_ins : cD (some (.ins c fs)) = none := (rfl)
@[simp] theorem cI_lst : cI (some (.lst xs)) = none := (rfl)
@[simp] theorem cI_dic : cI (some (.dic t kvs)) = none := (rfl)
@[simp] theorem cI_ins : cI (some (.ins c fs)) = some (c, fs) := (rfl)
@[simp] theorem lstOf_v : lstOf μ (.cell i) = cL μ[i]? := by
  cases h : μ[i]? with
  | none => simp [lstOf, cL, h]
  | some c => cases c <;> simp [lstOf, cL, h]
@[simp] theorem seqOf_v : seqOf μ (.cell i) = cL μ[i]? := lstOf_v μ i
@[simp] theorem dicOf_v : dicOf μ (.cell i) = cD μ[i]? := by
  cases h : μ[i]? with
  | none => simp [dicOf, cD, h]
  | some c => cases c <;> simp [dicOf, cD, h]
@[simp] theorem insOf_v : insOf μ (.cell i) = cI μ[i]? := by
  cases h : μ[i]? with
  | none => simp [insOf, cI, h]
  | some c => cases c <;> simp [insOf, cI, h]
def kIxC (o : Option (Bool × List (D × D))) (l : Option (List D)) (k : D) (μ : Store) : RD := match o with
  | some (t, kvs) => if keyB t k then ofO (kfind kvs k) μ else .bad
  | none => match k with
    | .int i => match l with
      | some xs => ofO (atI xs i) μ
      | none => .bad
    | _ => .bad
@[simp] theorem ixS_v : ixS μ (.cell i) e = kIxC (cD μ[i]?) (cL μ[i]?) e μ := by
  cases h : cD μ[i]? with
  | none => cases e <;> cases h2 : cL μ[i]? <;> simp [ixS, kIxC, h, h2]
  | some p => simp [ixS, kIxC, h]
@[simp] theorem kIxC_l (j : Int) : kIxC none (some xs) (.int j) μ = ofO (atI xs j) μ := (rfl)
@[simp] theorem kIxC_d (l : Option (List D)) : kIxC (some (t, kvs)) l e μ = if keyB t e then ofO (kfind kvs e) μ else .bad := (rfl)
@[simp] theorem len_v : biS μ .len [.cell i] = ofO ((cL μ[i]?).map fun xs => .int xs.length) μ := by
  simp only [biS, lenOf, seqOf_v]
  cases cL μ[i]? <;> rfl
def kApp (o : Option (List D)) (d : D) (i : Nat) (μ : Store) : RD := match o with
  | some xs => if sz (xs.length + 1) then .ok .non (μ.set i (.lst (xs ++ [d]))) else .bad
  | none => .bad
@[simp] theorem kApp_some : kApp (some xs) d i μ = if sz (xs.length + 1) then .ok .non (μ.set i (.lst (xs ++ [d]))) else .bad := (rfl)
@[simp] theorem app_v : bmS μ .append (.cell i) [d] = kApp (cL μ[i]?) d i μ := by
  cases h : μ[i]? with
  | none => simp [bmS, kApp, cL, h]
  | some c => cases c <;> simp [bmS, kApp, cL, h]
@[simp] theorem bmTy_app_v : bmTy μ .append (.cell i) = (cL μ[i]?).isSome := by simp [bmTy]
@[simp] theorem bmTy_ext_v : bmTy μ .extend (.cell i) = (cL μ[i]?).isSome := by simp [bmTy]
@[simp] theorem bmTy_idx_v : bmTy μ .index (.cell i) = (cL μ[i]?).isSome := by simp [bmTy]
@[simp] theorem bmTy_get_v : bmTy μ .get (.cell i) = (cD μ[i]?).isSome := by simp [bmTy]
def kExt (o l : Option (List D)) (i : Nat) (μ : Store) : RD := match o, l with
  | some xs, some ys => if sz (xs.length + ys.length) then .ok .non (μ.set i (.lst (xs ++ ys))) else .bad
  | _, _ => .bad
@[simp] theorem kExt_some (ys : List D) : kExt (some xs) (some ys) i μ = if sz (xs.length + ys.length) then .ok .non (μ.set i (.lst (xs ++ ys))) else .bad := (rfl)
@[simp] theorem ext_v : bmS μ .extend (.cell i) [d] = kExt (cL μ[i]?) (lstOf μ d) i μ := by
  cases h : μ[i]? with
  | none => simp [bmS, kExt, cL, h]
  | some c => cases c <;> cases h2 : lstOf μ d <;> simp [bmS, kExt, cL, h, h2]
def kGet (o : Option (Bool × List (D × D))) (k e : D) (μ : Store) : RD := match o with
  | some (t, kvs) => if keyB t k then .ok ((kfind kvs k).getD e) μ else .bad
  | none => .bad
@[simp] theorem kGet_some (k : D) : kGet (some (t, kvs)) k e μ = if keyB t k then .ok ((kfind kvs k).getD e) μ else .bad := (rfl)
@[simp] theorem get1_v (k : D) : bmS μ .get d [k] = kGet (dicOf μ d) k .non μ := by
  cases h : dicOf μ d <;> simp [bmS, kGet, h]
@[simp] theorem get2_v (k : D) : bmS μ .get d [k, e] = kGet (dicOf μ d) k e μ := by
  cases h : dicOf μ d <;> simp [bmS, kGet, h]
def kSetIx (o : Option Cell) (c : Nat) (k v : D) (μ : Store) : Option Store := match o with
    | some (.lst xs) => match k with
      | .int i => (ixN xs.length i).map fun j => μ.set c (.lst (xs.set j v))
      | _ => none
    | some (.dic t kvs) => if keyB t k && sz (kvs.length + 1) then some (μ.set c (.dic t (kput kvs k v))) else none
    | _ => none
@[simp] theorem setIx_v (k v : D) : setIx μ (.cell c) k v = kSetIx μ[c]? c k v μ := by
  cases h : μ[c]? with
  | none => simp [setIx, kSetIx, h]
  | some c => cases c <;> cases k <;> simp [setIx, kSetIx, h]
@[simp] theorem kSetIx_d (k v : D) : kSetIx (some (.dic t kvs)) c k v μ = if keyB t k && sz (kvs.length + 1) then some (μ.set c (.dic t (kput kvs k v))) else none := (rfl)
@[simp] theorem kSetIx_l (j : Int) (v : D) : kSetIx (some (.lst xs)) c (.int j) v μ = (ixN xs.length j).map fun j => μ.set c (.lst (xs.set j v)) := (rfl)
def kSetFld (fok : List (List Nat)) (o : Option (Nat × List (Nat × D))) (c f : Nat) (v : D) (μ : Store) : Option Store := match o with
  | some (k, fs) => if fokB fok k f && decide (fs.length < 900) then some (μ.set c (.ins k (fput fs f v))) else none
  | none => none
@[simp] theorem kSetFld_some (fok : List (List Nat)) (k f : Nat) (v : D) : kSetFld fok (some (k, fs)) c f v μ = if fokB fok k f && decide (fs.length < 900) then some (μ.set c (.ins k (fput fs f v))) else none := (rfl)
@[simp] theorem setFld_v (fok : List (List Nat)) (f : Nat) (v : D) : setFld fok μ (.cell c) f v = kSetFld fok (cI μ[c]?) c f v μ := by
  cases h : μ[c]? with
  | none => simp [setFld, kSetFld, cI, h]
  | some c => cases c <;> simp [setFld, kSetFld, cI, h]
def kFld3 (fok : List (List Nat)) (o : Option (Nat × List (Nat × D))) (f : Nat) (μ : Store) : RD := fldS fok μ o f
@[simp] theorem fldS_v (fok : List (List Nat)) (f : Nat) : fldS fok μ (some (c, fs)) f = if fokB fok c f then ofO (fget fs f) μ else .bad := (rfl)
def cK : Option Cell → Option Kd
  | some (.lst _) => some (.ty "list")
  | some (.dic _ _) => some (.ty "dict")
  | some (.ins c _) => some (.own c)
  | _ => none
@[simp] theorem cK_lst : cK (some (.lst xs)) = some (.ty "list") := (rfl)
@[simp] theorem cK_dic : cK (some (.dic t kvs)) = some (.ty "dict") := (rfl)
@[simp] theorem cK_ins : cK (some (.ins c fs)) = some (.own c) := (rfl)
@[simp] theorem kindOf_v : kindOf μ (.cell i) = cK μ[i]? := by
  cases h : μ[i]? with
  | none => simp [kindOf, cK, h]
  | some c => cases c <;> simp [kindOf, cK, h]
def kFrz2 (i j : Nat) (env : Env) (μ : Store) : Option Cell → RS
  | some (.lst xs) => .ok (.nx, env.set i (some (.lst xs))) (μ.set j .dead)
  | some (.dic t kvs) => .ok (.nx, env.set i (some (.dic t kvs))) (μ.set j .dead)
  | some (.ins c fs) => .ok (.nx, env.set i (some (.ins c fs))) (μ.set j .dead)
  | _ => .bad
def kFrz (i : Nat) (env : Env) (μ : Store) : Option D → RS
  | some (.cell j) => kFrz2 i j env μ μ[j]?
  | some _ => .ok (.nx, env) μ
  | none => .bad
section
variable (P : Prog) (call : Nat → List D → Store → RD) (env : Env) (j : Nat)
@[simp] theorem evS_frz : evS P call (.frz i) env μ = kFrz i env μ (getV env i) := by
  cases h : getV env i with
  | none => simp [evS, kFrz, h]
  | some d =>
    cases d <;> first | (simp [evS, kFrz, h]; done) | skip
    rename_i j
    cases h2 : μ[j]? with
    | none => simp [evS, kFrz, kFrz2, h, thawD, thaw, h2]
    | some c => cases c <;> simp [evS, kFrz, kFrz2, h, thawD, thaw, h2]
@[simp] theorem kFrz_cell : kFrz i env μ (some (.cell j)) = kFrz2 i j env μ μ[j]? := (rfl)
@[simp] theorem kFrz_lst : kFrz i env μ (some (.lst xs)) = .ok (.nx, env) μ := (rfl)
@[simp] theorem kFrz_dic : kFrz i env μ (some (.dic t kvs)) = .ok (.nx, env) μ := (rfl)
@[simp] theorem kFrz2_lst : kFrz2 i j env μ (some (.lst xs)) = .ok (.nx, env.set i (some (.lst xs))) (μ.set j .dead) := (rfl)
@[simp] theorem kFrz2_dic : kFrz2 i j env μ (some (.dic t kvs)) = .ok (.nx, env.set i (some (.dic t kvs))) (μ.set j .dead) := (rfl)
@[simp] theorem kFrz2_ins : kFrz2 i j env μ (some (.ins c fs)) = .ok (.nx, env.set i (some (.ins c fs))) (μ.set j .dead) := (rfl)
end
end
end Co
namespace Co
open PySem L2
def kInC (o : Option (Bool × List (D × D))) (l : Option (List D)) (d : D) : Option Bool := match o with
  | some (t, kvs) => if keyB t d then some (kfind kvs d).isSome else none
  | none => match l with
    | some xs => if d.dat 60 && D.dats 59 xs then some (xs.any fun x => x.eqv d) else none
    | none => none
@[simp] theorem inS_v (μ : Store) (d : D) (j : Nat) : inS μ d (.cell j) = kInC (cD μ[j]?) (cL μ[j]?) d := by
  cases h : cD μ[j]? with
  | some p => simp [inS, kInC, h]
  | none => cases h2 : cL μ[j]? <;> cases d <;> simp [inS, kInC, h, h2]
@[simp] theorem kInC_d (t : Bool) (kvs : List (D × D)) (l : Option (List D)) (d : D) : kInC (some (t, kvs)) l d = if keyB t d then some (kfind kvs d).isSome else none := (rfl)
@[simp] theorem kInC_l (xs : List D) (d : D) : kInC none (some xs) d = if d.dat 60 && D.dats 59 xs then some (xs.any fun x => x.eqv d) else none := (rfl)
@[simp] theorem inS_dic (μ : Store) (t : Bool) (kvs : List (D × D)) (d : D) : inS μ d (.dic t kvs) = if keyB t d then some (kfind kvs d).isSome else none := (rfl)
@[simp] theorem kfind_nil (d : D) : kfind [] d = none := (rfl)
end Co
namespace Co
open PySem L2
theorem binS_addt (μ : Store) (xs ys : List D) (h : sz (xs.length + ys.length) = true) : binS μ .add (.tup xs) (.tup ys) = .ok (.tup (xs ++ ys)) μ := by simp [binS, h]
end Co

set_option linter.all false
set_option maxRecDepth 100000
/-! Cm2: loops and comprehensions, for proofs. -/
namespace Co
open PySem L2
/-! ### cells that go -/
theorem keeps_set {n : Nat} : ∀ {μ μ' : Store} (i : Nat) {c : Cell}, keeps n μ μ' = true → c.lt n = true → keeps n μ (μ'.set i c) = true
  | [], _, _, _, _, _ => rfl
  | _ :: _, [], _, _, h, _ => by cases h
  | a :: r, b :: s, 0, c, h, hc => by
    have h' : ((decide (b = a) || b.lt n) && keeps n r s) = true := h
    rw [Bool.and_eq_true] at h'
    show ((decide (c = a) || c.lt n) && keeps n r s) = true
    rw [hc, h'.2]
    simp
  | a :: r, b :: s, i + 1, c, h, hc => by
    have h' : ((decide (b = a) || b.lt n) && keeps n r s) = true := h
    rw [Bool.and_eq_true] at h'
    show ((decide (b = a) || b.lt n) && keeps n r (s.set i c)) = true
    rw [h'.1, keeps_set i h'.2 hc]
    rfl
theorem keeps_more {n : Nat} : ∀ {μ μ' : Store} (t : Store), keeps n μ μ' = true → keeps n μ (μ' ++ t) = true
  | [], _, _, _ => rfl
  | _ :: _, [], _, h => by cases h
  | a :: r, b :: s, t, h => by
    have h' : ((decide (b = a) || b.lt n) && keeps n r s) = true := h
    rw [Bool.and_eq_true] at h'
    show ((decide (b = a) || b.lt n) && keeps n r (s ++ t)) = true
    rw [h'.1, keeps_more t h'.2]
    rfl
theorem leave_drop {μ μ' t : Store} {d : D} (hl : μ'.length = μ.length) (hk : keeps μ.length μ μ' = true) (hd : d.lt μ.length = true) : leave μ (.ok d (μ' ++ t)) = .ok d μ' := by
  unfold leave
  simp only [hd, keeps_more t hk, Bool.and_self, if_true]
  rw [← hl, List.take_left']
  rfl
/-- a def's local cells go -/
theorem leave_new (μ t : Store) {d : D} (hd : d.lt μ.length = true) : leave μ (.ok d (μ ++ t)) = .ok d μ := leave_ok hd
/-! ### for -/
def oLt (n : Nat) : Option D → Bool
  | some d => d.lt n
  | none => true
@[simp] theorem oLt_some (n : Nat) (d : D) : oLt n (some d) = d.lt n := (rfl)
@[simp] theorem oLt_none (n : Nat) : oLt n none = true := (rfl)
/-- what stands behind a turn -/
def tEnd (μ0 : Store) (clr : List Nat) (env : Env) (μ : Store) : Env × Store :=
  (wipeE env clr, if (wipeE env clr).all (oLt μ0.length) && keeps μ0.length μ0 μ then μ.take μ0.length else μ)
theorem turnEnd_eq (μ0 : Store) (clr : List Nat) (env : Env) (μ : Store) (k : Env → Store → RS) : turnEnd μ0.length μ0 clr env μ k = k (tEnd μ0 clr env μ).1 (tEnd μ0 clr env μ).2 := by
  have e : turnEnd μ0.length μ0 clr env μ k = if ((wipeE env clr).all (oLt μ0.length) && keeps μ0.length μ0 μ) = true then k (wipeE env clr) (μ.take μ0.length) else k (wipeE env clr) μ := rfl
  rw [e]
  unfold tEnd
  split <;> rfl
theorem tEnd_len {μ0 : Store} {clr : List Nat} {env : Env} {μ : Store} (h : μ.length = μ0.length) : tEnd μ0 clr env μ = (wipeE env clr, μ) := by
  unfold tEnd
  have e : μ.take μ0.length = μ := by rw [← h]; exact List.take_length
  rw [e]
  split <;> rfl
theorem tEnd_drop {μ0 μ' t : Store} {clr : List Nat} {env : Env} (hl : μ'.length = μ0.length) (hk : keeps μ0.length μ0 μ' = true) (he : (wipeE env clr).all (oLt μ0.length) = true) : tEnd μ0 clr env (μ' ++ t) = (wipeE env clr, μ') := by
  unfold tEnd
  rw [if_pos (by rw [he, keeps_more t hk]; rfl), ← hl, List.take_left']
  rfl
theorem forL_fn {body : Env → Store → RS} {tg : TGT} {stay : Store → Bool} {clr : List Nat} (st : Nat → Env × Store) : ∀ (xs : List D) (j0 : Nat), (∀ j, j ≤ xs.length → stay (st (j0 + j)).2 = true) →
    (∀ j (h : j < xs.length), ∃ env1 env2 μ2, asgT tg xs[j] (st (j0 + j)).1 = some env1 ∧ body env1 (st (j0 + j)).2 = .ok (.nx, env2) μ2 ∧ tEnd (st (j0 + j)).2 clr env2 μ2 = st (j0 + (j + 1))) →
    forL body tg stay clr xs (st j0).1 (st j0).2 = .ok (.nx, (st (j0 + xs.length)).1) (st (j0 + xs.length)).2
  | [], j0, hs, _ => by
    have h := hs 0 (Nat.le_refl _)
    unfold forL
    rw [Nat.add_zero] at h
    rw [if_pos h]
    rfl
  | x :: r, j0, hs, ht => by
    have h := hs 0 (Nat.zero_le _)
    rw [Nat.add_zero] at h
    obtain ⟨env1, env2, μ2, h1, h2, h3⟩ := ht 0 (by simp)
    have h1' : asgT tg x (st j0).1 = some env1 := h1
    have h2' : body env1 (st j0).2 = .ok (.nx, env2) μ2 := h2
    have h3' : tEnd (st j0).2 clr env2 μ2 = st (j0 + 1) := h3
    unfold forL
    rw [if_pos h, h1']
    simp only [h2']
    rw [turnEnd_eq, h3']
    have ih := forL_fn st r (j0 + 1) (fun j hj => by
      have := hs (j + 1) (by simp; omega)
      rwa [show j0 + (j + 1) = j0 + 1 + j by omega] at this) (fun j hj => by
      have := ht (j + 1) (by simp; omega)
      simp only [List.getElem_cons_succ] at this
      rw [show j0 + (j + 1) = j0 + 1 + j by omega, show j0 + (j + 1 + 1) = j0 + 1 + (j + 1) by omega] at this
      exact this)
    rw [ih, List.length_cons, show j0 + 1 + r.length = j0 + (r.length + 1) by omega]
theorem forS_fn {body : Env → Store → RS} {tg : TGT} {k : ITK} {ds xs : List D} {clr : List Nat} {env : Env} {μ : Store} (st : Nat → Env × Store) (hx : itemsOf μ k ds = some xs) (h0 : st 0 = (env, μ))
    (hs : ∀ j, j ≤ xs.length → stayB μ k ds xs (st j).2 = true)
    (ht : ∀ j (h : j < xs.length), ∃ env1 env2 μ2, asgT tg xs[j] (st j).1 = some env1 ∧ body env1 (st j).2 = .ok (.nx, env2) μ2 ∧ tEnd (st j).2 clr env2 μ2 = st (j + 1)) :
    forS body tg k ds clr env μ = .ok (.nx, (st xs.length).1) (st xs.length).2 := by
  unfold forS
  rw [hx]
  simp only
  have h := forL_fn (body := body) (tg := tg) (stay := stayB μ k ds xs) (clr := clr) st xs 0 (fun j hj => by rw [Nat.zero_add]; exact hs j hj) (fun j hj => by
    have := ht j hj
    rw [Nat.zero_add, Nat.zero_add]
    exact this)
  rw [h0] at h
  rw [h, Nat.zero_add]
/-! ### what is walked -/
section
variable (μ μ' : Store) (xs ys : List D) (a b n : Int)
@[simp] theorem it_lst : itemsOf μ .seq [.lst xs] = some xs := (rfl)
@[simp] theorem it_tup : itemsOf μ .seq [.tup xs] = some xs := (rfl)
@[simp] theorem it_str (x : Str) : itemsOf μ .seq [.str x] = some (signs x) := (rfl)
@[simp] theorem it_enum : itemsOf μ .enum [.lst xs] = some (enumD 0 xs) := (rfl)
@[simp] theorem it_rev : itemsOf μ .rev [.lst xs] = some xs.reverse := (rfl)
theorem it_rng1 (h : inR n = true) : itemsOf μ .rng1 [.int n] = some ((List.range n.toNat).map fun (i : Nat) => D.int (i : Int)) := if_pos h
@[simp] theorem stay_lst : stayB μ .seq [.lst xs] xs μ' = true := by simp [stayB, tagOf]
@[simp] theorem stay_tup : stayB μ .seq [.tup xs] xs μ' = true := by simp [stayB, tagOf]
@[simp] theorem stay_str (x : Str) : stayB μ .seq [.str x] (signs x) μ' = true := by simp [stayB, tagOf]
@[simp] theorem stay_enum : stayB μ .enum [.lst xs] (enumD 0 xs) μ' = true := by simp [stayB, tagOf]
@[simp] theorem stay_rev : stayB μ .rev [.lst xs] xs.reverse μ' = true := by simp [stayB, tagOf]
theorem stay_rng1 (h : inR n = true) : stayB μ .rng1 [.int n] ((List.range n.toNat).map fun (i : Nat) => D.int (i : Int)) μ' = true := by
  simp [stayB, it_rng1 _ _ h, tagOf, dicOf]
@[simp] theorem walk_lst : walkedC μ .seq [.lst xs] = none := (rfl)
@[simp] theorem walk_tup : walkedC μ .seq [.tup xs] = none := (rfl)
@[simp] theorem walk_str (x : Str) : walkedC μ .seq [.str x] = none := (rfl)
@[simp] theorem walk_enum (d : D) : walkedC μ .enum [d] = none := (rfl)
@[simp] theorem walk_rev (d : D) : walkedC μ .rev [d] = none := (rfl)
@[simp] theorem walk_rng1 (d : D) : walkedC μ .rng1 [d] = none := (rfl)
@[simp] theorem walk_rng2 (ds : List D) : walkedC μ .rng2 ds = none := (rfl)
@[simp] theorem walk_zip (ds : List D) : walkedC μ .zip ds = none := (rfl)
theorem walk_cl {i : Nat} (h : μ[i]? = some (.lst xs)) : walkedC μ .seq [.cell i] = none := by simp [walkedC, h]
theorem it_cl {i : Nat} (h : μ[i]? = some (.lst xs)) : itemsOf μ .seq [.cell i] = some xs := by
  have e : seqOf μ (.cell i) = some xs := lstOf_c h
  simp [itemsOf, dicOf_cl h, e]
theorem it_revc {i : Nat} (h : μ[i]? = some (.lst xs)) : itemsOf μ .rev [.cell i] = some xs.reverse := by simp [itemsOf, lstOf_c h]
end
/-! ### comprehensions whose parts change nothing -/
theorem lcL_map {cond elt : Env → Store → RD} {tg : TGT} {stay : Store → Bool} (μ : Store) (f : D → D) : ∀ (xs acc : List D) (env : Env), (∀ ys, stay (μ ++ [.lst ys]) = true) → acc.length + xs.length ≤ 1000000 →
    (∀ x ∈ xs, ∃ env', asgT tg x env = some env' ∧ ∀ ys, cond env' (μ ++ [.lst ys]) = .ok (.bl true) (μ ++ [.lst ys]) ∧ elt env' (μ ++ [.lst ys]) = .ok (f x) (μ ++ [.lst ys])) →
    lcL cond elt tg stay μ.length xs env (μ ++ [.lst acc]) = .ok () (μ ++ [.lst (acc ++ xs.map f)])
  | [], acc, env, hs, _, _ => by
    unfold lcL
    rw [if_pos (hs acc)]
    simp
  | x :: r, acc, env, hs, hl, h => by
    obtain ⟨env', h1, h2⟩ := h x List.mem_cons_self
    obtain ⟨h3, h4⟩ := h2 acc
    have hz : sz (acc.length + 1) = true := sz_of (by simp at hl; omega)
    unfold lcL
    rw [if_pos (hs acc), h1]
    simp only [h3, Res.bind_ok, truth_bl, ofO_some, h4]
    have e : bmS (μ ++ [Cell.lst acc]) .append (.cell μ.length) [f x] = .ok .non (μ ++ [.lst (acc ++ [f x])]) := by
      simp [hz]
    rw [e]
    simp only
    rw [lcL_map μ f r (acc ++ [f x]) env hs (by simp at hl ⊢; omega) (fun y hy => h y (List.mem_cons_of_mem _ hy))]
    simp
theorem lcS_map {cond elt : Env → Store → RD} {tg : TGT} {own : List Nat} {k : ITK} {ds xs : List D} {env : Env} {μ : Store} (f : D → D) (hx : itemsOf μ k ds = some xs) (hs : ∀ ys, stayB μ k ds xs (μ ++ [.lst ys]) = true) (hl : xs.length ≤ 1000000)
    (h : ∀ x ∈ xs, ∃ env', asgT tg x (wipeE env own) = some env' ∧ ∀ ys, cond env' (μ ++ [.lst ys]) = .ok (.bl true) (μ ++ [.lst ys]) ∧ elt env' (μ ++ [.lst ys]) = .ok (f x) (μ ++ [.lst ys])) (hlt : D.lts μ.length (xs.map f) = true) :
    lcS cond elt tg own k ds true env μ = .ok (.lst (xs.map f)) μ := by
  unfold lcS
  rw [hx]
  simp only
  rw [lcL_map μ f xs [] (wipeE env own) hs (by simpa using hl) h]
  simp [thaw, leave_new, hlt]
theorem lcS_mapC {cond elt : Env → Store → RD} {tg : TGT} {own : List Nat} {k : ITK} {ds xs : List D} {env : Env} {μ : Store} (f : D → D) (hx : itemsOf μ k ds = some xs) (hs : ∀ ys, stayB μ k ds xs (μ ++ [.lst ys]) = true) (hl : xs.length ≤ 1000000)
    (h : ∀ x ∈ xs, ∃ env', asgT tg x (wipeE env own) = some env' ∧ ∀ ys, cond env' (μ ++ [.lst ys]) = .ok (.bl true) (μ ++ [.lst ys]) ∧ elt env' (μ ++ [.lst ys]) = .ok (f x) (μ ++ [.lst ys])) :
    lcS cond elt tg own k ds false env μ = .ok (.cell μ.length) (μ ++ [.lst (xs.map f)]) := by
  unfold lcS
  rw [hx]
  simp only
  rw [lcL_map μ f xs [] (wipeE env own) hs (by simpa using hl) h]
  simp
/-! ### while -/
theorem whileL_fn {cond : Env → Store → RD} {body : Env → Store → RS} {clr : List Nat} (st : Nat → Env × Store) : ∀ (m j0 n : Nat), m < n →
    (∀ j, j < m → cond (st (j0 + j)).1 (st (j0 + j)).2 = .ok (.bl true) (st (j0 + j)).2 ∧ ∃ env2 μ2, body (st (j0 + j)).1 (st (j0 + j)).2 = .ok (.nx, env2) μ2 ∧ tEnd (st (j0 + j)).2 clr env2 μ2 = st (j0 + (j + 1))) →
    cond (st (j0 + m)).1 (st (j0 + m)).2 = .ok (.bl false) (st (j0 + m)).2 →
    whileL cond body clr n (st j0).1 (st j0).2 = .ok (.nx, (st (j0 + m)).1) (st (j0 + m)).2
  | 0, j0, n + 1, _, _, he => by
    rw [Nat.add_zero] at he ⊢
    unfold whileL
    rw [he]
    simp
  | m + 1, j0, n + 1, hn, ht, he => by
    obtain ⟨h1, env2, μ2, h2, h3⟩ := ht 0 (by omega)
    rw [Nat.add_zero] at h1 h2 h3
    unfold whileL
    rw [h1]
    simp only [lift_ok, truth_bl, h2]
    rw [turnEnd_eq, h3]
    have ih := whileL_fn (cond := cond) (body := body) (clr := clr) st m (j0 + 1) n (by omega) (fun j hj => by
      have := ht (j + 1) (by omega)
      rw [show j0 + (j + 1) = j0 + 1 + j by omega, show j0 + (j + 1 + 1) = j0 + 1 + (j + 1) by omega] at this
      exact this) (by rw [show j0 + 1 + m = j0 + (m + 1) by omega]; exact he)
    rw [show j0 + (0 + 1) = j0 + 1 by omega, ih, show j0 + 1 + m = j0 + (m + 1) by omega]
end Co
namespace Co
theorem set_self' {α : Type} {l : List α} {i : Nat} {a : α} (h : l[i]? = some a) : l.set i a = l := by
  apply List.ext_getElem?
  intro j
  by_cases e : i = j
  · subst e
    rw [List.getElem?_set_self (List.getElem?_eq_some_iff.mp h).1, h]
  · rw [List.getElem?_set_ne e]
theorem get_set_self {α : Type} {l : List α} {i : Nat} {a b : α} (h : l[i]? = some a) : (l.set i b)[i]? = some b := List.getElem?_set_self (List.getElem?_eq_some_iff.mp h).1
theorem get_app_len {α : Type} (l : List α) (a : α) (r : List α) : (l ++ a :: r)[l.length]? = some a := by simp
theorem get_app_lt {α : Type} {l : List α} {i : Nat} {a : α} (h : l[i]? = some a) (r : List α) : (l ++ r)[i]? = some a := by
  rw [List.getElem?_append_left (List.getElem?_eq_some_iff.mp h).1]
  exact h
theorem set_app_len {α : Type} (l : List α) (a b : α) (r : List α) : (l ++ a :: r).set l.length b = l ++ b :: r := by simp
theorem lt_of_get {α : Type} {l : List α} {i : Nat} {a : α} (h : l[i]? = some a) : i < l.length := (List.getElem?_eq_some_iff.mp h).1
theorem map_range_succ {α : Type} (f : Nat → α) (n : Nat) : (List.range (n + 1)).map f = (List.range n).map f ++ [f n] := by simp [List.range_succ]
theorem inR_of {i : Int} (h0 : 0 ≤ i) (h1 : i ≤ 1000000) : inR i = true := decide_eq_true ⟨by omega, by omega⟩
end Co
namespace Co
open PySem L2
section
variable (P : Prog) (call : Nat → List D → Store → RD)
theorem frz_l {i j : Nat} {env : Env} {μ : Store} {xs : List D} (h : getV env i = some (.cell j)) (h2 : μ[j]? = some (.lst xs)) : evS P call (.frz i) env μ = .ok (.nx, env.set i (some (.lst xs))) (μ.set j .dead) := by
  simp [evS, h, thawD, thaw, h2]
theorem frz_d {i j : Nat} {env : Env} {μ : Store} {t : Bool} {kvs : List (D × D)} (h : getV env i = some (.cell j)) (h2 : μ[j]? = some (.dic t kvs)) : evS P call (.frz i) env μ = .ok (.nx, env.set i (some (.dic t kvs))) (μ.set j .dead) := by
  simp [evS, h, thawD, h2]
theorem for_none {k : ITK} {it : CE} {tg : TGT} {b : CS} {clr : List Nat} {env : Env} {μ μ1 : Store} {ds : List D} (h : evA P call it env μ = .ok ds μ1) (h2 : walkedC μ1 k ds = none) : evS P call (.for k it tg b clr) env μ = forS (evS P call b) tg k ds clr env μ1 := by
  simp [h, h2]
end
end Co
namespace Co
@[simp] theorem keeps_pre (n : Nat) : ∀ μ t t' : Store, keeps n (μ ++ t) (μ ++ t') = keeps n t t'
  | [], _, _ => rfl
  | c :: r, t, t' => by
    show ((decide (c = c) || c.lt n) && keeps n (r ++ t) (r ++ t')) = _
    rw [keeps_pre n r t t']
    simp
@[simp] theorem keeps_nil (n : Nat) (t : Store) : keeps n [] t = true := (rfl)
theorem keeps_c1 (n : Nat) {a b : Cell} {r s : Store} (h : b.lt n = true) (h2 : keeps n r s = true) : keeps n (a :: r) (b :: s) = true := by
  show ((decide (b = a) || b.lt n) && keeps n r s) = true
  rw [h, h2]
  simp
theorem keeps_c0 (n : Nat) {a : Cell} {r s : Store} (h2 : keeps n r s = true) : keeps n (a :: r) (a :: s) = true := by
  show ((decide (a = a) || a.lt n) && keeps n r s) = true
  rw [h2]
  simp
@[simp] theorem cell_lt_lst (n : Nat) (xs : List D) : (Cell.lst xs).lt n = D.lts n xs := (rfl)
@[simp] theorem cell_lt_dic (n : Nat) (t : Bool) (xs : List (D × D)) : (Cell.dic t xs).lt n = D.ltp n xs := (rfl)
@[simp] theorem cell_lt_ins (n c : Nat) (xs : List (Nat × D)) : (Cell.ins c xs).lt n = D.ltf n xs := (rfl)
@[simp] theorem cell_lt_dead (n : Nat) : (Cell.dead).lt n = true := (rfl)
end Co
namespace Co
open PySem L2
section
variable (P : Prog) (μ : Store)
def mlk (c m : Nat) : Option Nat := (P.mth.getD c []).lookup m
def kMethOf (m : Nat) : Option (Nat × List (Nat × D)) → Option Nat
  | some (c, _) => mlk P c m
  | none => none
@[simp] theorem methOf_v (m i : Nat) : methOf P μ m (.cell i) = kMethOf P m (cI μ[i]?) := by
  unfold methOf
  rw [insOf_v]
  cases cI μ[i]? <;> rfl
@[simp] theorem kMethOf_some (m c : Nat) (fs : List (Nat × D)) : kMethOf P m (some (c, fs)) = mlk P c m := (rfl)
@[simp] theorem methOf_i (m c : Nat) (fs : List (Nat × D)) : methOf P μ m (.ins c fs) = mlk P c m := (rfl)
theorem isiS_eq {sub : List (List Nat)} {d : D} {k : Kd} (h : kindOf μ d = some k) (hk : kdB sub.length k = true) (ts : List Ty) : isiS sub μ d ts = some (ts.any (isiK sub k)) := by
  induction ts with
  | nil => rfl
  | cons t ts ih =>
    rw [isiS_cons μ d sub k h hk, ih, List.any_cons]
    cases isiK sub k t <;> rfl
variable (call : Nat → List D → Store → RD)
theorem make_frz {c f : Nat} {ds : List D} {fs : List (Nat × D)} (hi : P.init.getD c none = some f) (h : call f (.cell μ.length :: ds) (μ ++ [.ins c []]) = .ok .non (μ ++ [.ins c fs])) (hl : D.ltf μ.length fs = true) : makeS P call c true ds μ = .ok (.ins c fs) μ := by
  unfold makeS
  rw [hi]
  simp only [h]
  simp [thaw, leave_new, hl]
theorem make_cell {c f : Nat} {ds : List D} {μ' : Store} (hi : P.init.getD c none = some f) (h : call f (.cell μ.length :: ds) (μ ++ [.ins c []]) = .ok .non μ') : makeS P call c false ds μ = .ok (.cell μ.length) μ' := by
  unfold makeS
  rw [hi]
  simp only [h]
  simp
end
end Co
namespace Co
open PySem L2
theorem kput_len (l : List (D × D)) (k v : D) : (kput l k v).length ≤ l.length + 1 := by
  unfold kput
  split
  · simp
  · simp
theorem kput_lt {n : Nat} {l : List (D × D)} {k v : D} (h : D.ltp n l = true) (hk : k.lt n = true) (hv : v.lt n = true) : D.ltp n (kput l k v) = true := by
  have all : ∀ l : List (D × D), D.ltp n l = l.all fun p => p.1.lt n && p.2.lt n := fun l => by
    induction l with
    | nil => rfl
    | cons x r ih => rw [ltp_cons, List.all_cons, ih]
  rw [all] at h ⊢
  unfold kput
  split
  · rw [List.all_map, List.all_eq_true]
    intro p hp
    have := List.all_eq_true.mp h p hp
    simp only [Function.comp]
    split
    · rw [Bool.and_eq_true] at this ⊢
      exact ⟨this.1, hv⟩
    · exact this
  · rw [List.all_append, h]
    simp [hk, hv]
theorem kfind_put (l : List (D × D)) (k v q : D) : kfind (kput l k v) q = if q = k then some v else kfind l q := by
  have nf : ∀ l : List (D × D), (l.any fun p => decide (p.1 = k)) = false → kfind l k = none := fun l => by
    induction l with
    | nil => intro _; rfl
    | cons x r ih =>
      intro h
      rw [List.any_cons, Bool.or_eq_false_iff, decide_eq_false_iff_not] at h
      unfold kfind
      rw [if_neg h.1]
      exact ih h.2
  have ap : ∀ l : List (D × D), (l.any fun p => decide (p.1 = k)) = false → kfind (l ++ [(k, v)]) q = if q = k then some v else kfind l q := fun l => by
    induction l with
    | nil =>
      intro _
      show (if k = q then some v else none) = _
      by_cases e : q = k
      · rw [if_pos e, if_pos e.symm]
      · rw [if_neg e, if_neg (Ne.symm e)]
        rfl
    | cons x r ih =>
      intro h
      rw [List.any_cons, Bool.or_eq_false_iff, decide_eq_false_iff_not] at h
      show kfind ((x.1, x.2) :: (r ++ [(k, v)])) q = _
      unfold kfind
      rw [ih h.2]
      by_cases e : x.1 = q
      · rw [if_pos e, if_pos e, if_neg fun z => h.1 (e.trans z)]
      · rw [if_neg e, if_neg e]
  have mp : ∀ l : List (D × D), (l.any fun p => decide (p.1 = k)) = true → kfind (l.map fun p => if p.1 = k then (p.1, v) else p) q = if q = k then some v else kfind l q := fun l => by
    induction l with
    | nil => intro h; cases h
    | cons x r ih =>
      intro h
      obtain ⟨a, b⟩ := x
      rw [List.any_cons, Bool.or_eq_true, decide_eq_true_eq] at h
      rw [List.map_cons]
      by_cases e : a = k
      · simp only [e, if_true]
        unfold kfind
        by_cases e2 : k = q
        · rw [if_pos e2, if_pos e2.symm]
        · rw [if_neg e2, if_neg e2, if_neg (Ne.symm e2)]
          cases hr : r.any fun p => decide (p.1 = k) with
          | true =>
            rw [ih hr, if_neg (Ne.symm e2)]
          | false =>
            have er : (r.map fun p => if p.1 = k then (p.1, v) else p) = r := by
              conv => rhs; rw [← List.map_id r]
              refine List.map_congr_left fun p hp => ?_
              have := List.any_eq_false.mp hr p hp
              rw [if_neg (by simpa using this)]
              rfl
            rw [er]
      · have hr : (r.any fun p => decide (p.1 = k)) = true := h.resolve_left e
        simp only [if_neg e]
        unfold kfind
        rw [ih hr]
        by_cases e2 : a = q
        · rw [if_pos e2, if_pos e2, if_neg fun z => e (e2.trans z)]
        · rw [if_neg e2, if_neg e2]
  unfold kput
  split
  · exact mp l (by assumption)
  · rename_i h
    exact ap l (Bool.eq_false_iff.mpr h)
end Co
namespace Co
theorem keeps_cons (n : Nat) (a b : Cell) (r s : Store) : keeps n (a :: r) (b :: s) = ((decide (b = a) || b.lt n) && keeps n r s) := rfl
/-- what is handed on outlives the call -/
theorem leave_stay {μ μ' : Store} {d : D} (h : keeps μ.length μ μ' = false) : leave μ (.ok d μ') = .ok d μ' := by
  unfold leave
  simp only [h, Bool.and_false, Bool.false_eq_true, if_false]
theorem leave_val {μ μ' : Store} {d : D} (h : d.lt μ.length = false) : leave μ (.ok d μ') = .ok d μ' := by
  unfold leave
  simp only [h, Bool.false_and, Bool.false_eq_true, if_false]
end Co
namespace Co
open PySem L2
@[simp] theorem forS_nil (body : Env → Store → RS) (tg : TGT) (clr : List Nat) (env : Env) (μ : Store) : forS body tg .seq [.lst []] clr env μ = .ok (.nx, env) μ := by
  unfold forS
  simp [forL]
theorem forS_revc (body : Env → Store → RS) (tg : TGT) (clr : List Nat) (env : Env) (μ : Store) (j : Nat) (h : μ[j]? = some (.lst [])) : forS body tg .rev [.cell j] clr env μ = .ok (.nx, env) μ := by
  unfold forS
  rw [it_revc _ _ h]
  simp [forL, stayB, it_revc _ _ h]
end Co
namespace Co
open PySem L2
theorem stay_cl {μ μ' : Store} {j : Nat} {xs : List D} (h : μ[j]? = some (.lst xs)) (h' : μ'[j]? = some (.lst xs)) : stayB μ .seq [.cell j] xs μ' = true := by
  simp [stayB, it_cl _ _ h', tagOf, h, h']
end Co

set_option linter.all false
set_option maxRecDepth 100000
namespace Co
open PySem L2
section
variable (P : Prog) (call : Nat → List D → Store → RD)
def mTry (els : CS) : RS → RS
  | .ok (.nx, env') μ' => evS P call els env' μ'
  | .ok (.rt d, env') μ' => .ok (.rt d, env') μ'
  | .ok (.bk, env') μ' => .ok (.bk, env') μ'
  | .ok (.ct, env') μ' => .ok (.ct, env') μ'
  | .ex _ _ => .bad
  | .bad => .bad
theorem evS_try (b : CS) (cs : List Nat) (nm : Option Nat) (h els : CS) (env : Env) (μ : Store) : evS P call (.try b cs nm h els) env μ = mTry P call els (evS P call b env μ) := by
  show (match evS P call b env μ with
    | .ok (.nx, env') μ' => evS P call els env' μ'
    | .ok (.rt d, env') μ' => .ok (.rt d, env') μ'
    | .ok (.bk, env') μ' => .ok (.bk, env') μ'
    | .ok (.ct, env') μ' => .ok (.ct, env') μ'
    | .ex _ _ => .bad
    | .bad => .bad) = _
  cases evS P call b env μ with
  | ok x μ' =>
    obtain ⟨s, e⟩ := x
    cases s <;> rfl
  | ex _ _ => rfl
  | bad => rfl
@[simp] theorem mTry_nx (els : CS) (env : Env) (μ : Store) : mTry P call els (.ok (.nx, env) μ) = evS P call els env μ := (rfl)
@[simp] theorem mTry_rt (els : CS) (d : D) (env : Env) (μ : Store) : mTry P call els (.ok (.rt d, env) μ) = .ok (.rt d, env) μ := (rfl)
theorem evS_while (c : CE) (b : CS) (clr : List Nat) (env : Env) (μ : Store) : evS P call (.while c b clr) env μ = whileL (evE P call c) (evS P call b) clr P.fuel env μ := rfl
end
end Co
namespace Co
open PySem L2
theorem eqv_refl_all : (∀ d : D, ∀ n, d.dat n = true → d.eqv d = true) := by
  suffices h : ∀ m : Nat, (∀ d : D, sizeOf d ≤ m → ∀ n, d.dat n = true → d.eqv d = true) ∧ (∀ xs : List D, sizeOf xs ≤ m → ∀ n, D.dats n xs = true → D.eqvs xs xs = true) from fun d n hd => (h (sizeOf d)).1 d (Nat.le_refl _) n hd
  intro m
  induction m with
  | zero => exact ⟨fun d h => by cases d <;> simp at h, fun xs h => by cases xs <;> simp at h⟩
  | succ m ih =>
    refine ⟨fun d h n hd => ?_, fun xs h n hd => ?_⟩
    · cases d with
      | tup xs =>
        cases n with
        | zero => cases hd
        | succ n => exact ih.2 xs (by simp at h; omega) n hd
      | wtup xs =>
        cases n with
        | zero => cases hd
        | succ n => exact ih.2 xs (by simp at h; omega) n hd
      | lst xs =>
        cases n with
        | zero => cases hd
        | succ n => exact ih.2 xs (by simp at h; omega) n hd
      | dic t kvs => cases hd
      | ins c fs => cases hd
      | cell i => cases hd
      | non => rfl
      | bl b => exact beq_self_eq_true b
      | int i => exact beq_self_eq_true i
      | str x => exact decide_eq_true rfl
    · cases xs with
      | nil => rfl
      | cons x r =>
        have hd' : (x.dat n && D.dats n r) = true := hd
        rw [Bool.and_eq_true] at hd'
        show (x.eqv x && D.eqvs r r) = true
        rw [ih.1 x (by simp at h; omega) n hd'.1, ih.2 r (by simp at h; omega) n hd'.2]
        rfl
theorem eqS_same {μ : Store} {d e x : D} (h1 : still μ d = some x) (h2 : still μ e = some x) (h : x.dat 60 = true) : eqS μ d e = some true := by
  have h0 : eqS0 μ d e = some true := by
    unfold eqS0
    rw [h1, h2]
    simp only [h, Bool.and_self, if_true, eqv_refl_all x 60 h]
  unfold eqS
  rw [h0]
theorem still_cl {μ : Store} {i : Nat} {xs : List D} (h : μ[i]? = some (.lst xs)) : still μ (.cell i) = some (.lst xs) := by simp [still, h]
theorem dats_map {α : Type} {n : Nat} (f : α → D) : ∀ {l : List α}, (∀ x ∈ l, (f x).dat n = true) → D.dats n (l.map f) = true
  | [], _ => rfl
  | x :: r, h => by
    show ((f x).dat n && D.dats n (r.map f)) = true
    rw [h x List.mem_cons_self, dats_map f fun y hy => h y (List.mem_cons_of_mem _ hy)]
    rfl
theorem dats_app {n : Nat} : ∀ {a b : List D}, D.dats n a = true → D.dats n b = true → D.dats n (a ++ b) = true
  | [], _, _, h => h
  | x :: r, b, h1, h2 => by
    have h1' : (x.dat n && D.dats n r) = true := h1
    rw [Bool.and_eq_true] at h1'
    show (x.dat n && D.dats n (r ++ b)) = true
    rw [h1'.1, dats_app h1'.2 h2]
    rfl
theorem cutD_take (xs : List D) (k : Nat) : cutD xs none (some (k : Int)) = xs.take k := by
  unfold cutD
  rw [HT.sIx_none, HT.sIx_nat, List.drop_zero, Nat.sub_zero]
  by_cases h : k ≤ xs.length
  · rw [Nat.min_eq_left h]
  · rw [Nat.min_eq_right (by omega), List.take_length, List.take_of_length_le (by omega)]
theorem enum_at {xs : List D} {j : Nat} (h : j < (enumD 0 xs).length) : (enumD 0 xs)[j] = .tup [.int (j : Int), xs[j]'(by rwa [enumD_len] at h)] := by
  have h2 : j < xs.length := by rwa [enumD_len] at h
  have e := enumD_get (n := 0) (List.getElem?_eq_getElem h2)
  rw [List.getElem?_eq_getElem h, Option.some.injEq, Nat.zero_add] at e
  exact e
end Co
namespace Co
open PySem L2
theorem binS_addcl {μ : Store} {i : Nat} {xs ys : List D} (h : μ[i]? = some (.lst xs)) (hz : sz (xs.length + ys.length) = true) : binS μ .add (.cell i) (.lst ys) = .ok (.lst (xs ++ ys)) μ := by
  have e : lstOf μ (.cell i) = some xs := lstOf_c h
  have e2 : lstOf μ (.lst ys) = some ys := rfl
  have e3 : binS μ .add (.cell i) (.lst ys) = match lstOf μ (.cell i), lstOf μ (.lst ys) with
    | some xs, some ys => if sz (xs.length + ys.length) then .ok (.lst (xs ++ ys)) μ else .bad
    | _, _ => .bad := rfl
  rw [e3, e, e2]
  exact if_pos hz
theorem bi_listF {μ : Store} {i : Nat} {xs : List D} (h : μ[i]? = some (.lst xs)) : biS μ (.list true) [.cell i] = .ok (.lst xs) μ := by
  have e : seqOf μ (.cell i) = some xs := lstOf_c h
  simp [biS, e]
theorem slS_cl {μ : Store} {i : Nat} {xs : List D} (h : μ[i]? = some (.lst xs)) (lo hi : Option Int) : slS μ (.cell i) lo hi = .ok (.lst (cutD xs lo hi)) μ := by
  have e : lstOf μ (.cell i) = some xs := lstOf_c h
  simp [slS, e]
end Co

set_option linter.all false
set_option maxRecDepth 100000
/-! Cm4: loops over written lists, closures, what simp needs for whole bodies. -/
namespace Co
open PySem L2
@[simp] theorem atI_zero' {α : Type} (xs : List α) : atI xs 0 = xs[0]? := atI_zero xs
@[simp] theorem atI_one' {α : Type} (xs : List α) : atI xs 1 = xs[1]? := atI_one xs
@[simp] theorem atI_l2 {α : Type} (xs : List α) : atI xs 2 = xs[2]? := atI_nat' xs 2
@[simp] theorem atI_l3 {α : Type} (xs : List α) : atI xs 3 = xs[3]? := atI_nat' xs 3
@[simp] theorem atI_l4 {α : Type} (xs : List α) : atI xs 4 = xs[4]? := atI_nat' xs 4
@[simp] theorem atI_l5 {α : Type} (xs : List α) : atI xs 5 = xs[5]? := atI_nat' xs 5
@[simp] theorem atI_l6 {α : Type} (xs : List α) : atI xs 6 = xs[6]? := atI_nat' xs 6
@[simp] theorem atI_l7 {α : Type} (xs : List α) : atI xs 7 = xs[7]? := atI_nat' xs 7
@[simp] theorem atI_l8 {α : Type} (xs : List α) : atI xs 8 = xs[8]? := atI_nat' xs 8
@[simp] theorem atI_l9 {α : Type} (xs : List α) : atI xs 9 = xs[9]? := atI_nat' xs 9
/-! ### loops -/
def tt : Store → Bool := fun _ => true
def kTurn (clr : List Nat) (μ : Store) (k : Env → Store → RS) : RS → RS
  | .ok (.nx, env2) μ2 => turnEnd μ.length μ clr env2 μ2 k
  | .ok (.ct, env2) μ2 => turnEnd μ.length μ clr env2 μ2 k
  | .ok (.bk, env2) μ2 => .ok (.nx, env2) μ2
  | .ok (.rt d, env2) μ2 => .ok (.rt d, env2) μ2
  | .ex x μ2 => .ex x μ2
  | .bad => .bad
def kFor2 (body : Env → Store → RS) (tg : TGT) (clr : List Nat) (r : List D) (μ : Store) : Option Env → RS
  | none => .bad
  | some env' => kTurn clr μ (forL body tg tt clr r) (body env' μ)
section
variable {body : Env → Store → RS} {tg : TGT} {clr : List Nat} {env : Env} {μ μ2 : Store} {k : Env → Store → RS} {xs r : List D} {x d : D}
theorem forL_tt {stay : Store → Bool} (h : ∀ μ, stay μ = true) : forL body tg stay clr xs env μ = forL body tg tt clr xs env μ := by
  have : stay = tt := funext h
  rw [this]
@[simp] theorem forL_nil : forL body tg tt clr [] env μ = .ok (.nx, env) μ := (rfl)
@[simp] theorem forL_cons : forL body tg tt clr (x :: r) env μ = kFor2 body tg clr r μ (asgT tg x env) := by
  unfold forL
  rw [if_pos (show tt μ = true from rfl)]
  cases asgT tg x env with
  | none => rfl
  | some e =>
    show (match body e μ with | .ok (.nx, env2) μ2 => _ | .ok (.ct, env2) μ2 => _ | .ok (.bk, env2) μ2 => _ | .ok (.rt d, env2) μ2 => _ | .ex x μ2 => _ | .bad => _) = kTurn clr μ (forL body tg tt clr r) (body e μ)
    cases body e μ with
    | bad => rfl
    | ex y μ2 => rfl
    | ok p μ2 =>
      obtain ⟨s, e2⟩ := p
      cases s <;> rfl
@[simp] theorem kFor2_some (e : Env) : kFor2 body tg clr r μ (some e) = kTurn clr μ (forL body tg tt clr r) (body e μ) := (rfl)
@[simp] theorem kTurn_nx : kTurn clr μ k (.ok (.nx, env) μ2) = turnEnd μ.length μ clr env μ2 k := (rfl)
@[simp] theorem kTurn_ct : kTurn clr μ k (.ok (.ct, env) μ2) = turnEnd μ.length μ clr env μ2 k := (rfl)
@[simp] theorem kTurn_bk : kTurn clr μ k (.ok (.bk, env) μ2) = .ok (.nx, env) μ2 := (rfl)
@[simp] theorem kTurn_rt : kTurn clr μ k (.ok (.rt d, env) μ2) = .ok (.rt d, env) μ2 := (rfl)
@[simp] theorem turnEnd_len {n : Nat} (hn : n = μ.length) (h : μ2.length = μ.length) : turnEnd n μ clr env μ2 k = k (wipeE env clr) μ2 := by
  subst hn
  unfold turnEnd
  simp only
  split
  · rw [← h, List.take_length]
  · rfl
theorem turnEnd_drop {t : Store} (h : μ2.length = μ.length) (hk : keeps μ.length μ μ2 = true) (he : (wipeE env clr).all (oLt μ.length) = true) : turnEnd μ.length μ clr env (μ2 ++ t) k = k (wipeE env clr) μ2 := by
  rw [turnEnd_eq, tEnd_drop h hk he]
theorem turnEnd_stay {n : Nat} (h : keeps n μ μ2 = false) : turnEnd n μ clr env μ2 k = k (wipeE env clr) μ2 := by
  unfold turnEnd
  simp [h]
@[simp] theorem forS_lst : forS body tg .seq [.lst xs] clr env μ = forL body tg tt clr xs env μ := forL_tt fun _ => stay_lst _ _ _
@[simp] theorem forS_tup : forS body tg .seq [.tup xs] clr env μ = forL body tg tt clr xs env μ := forL_tt fun _ => stay_tup _ _ _
@[simp] theorem forS_str (y : Str) : forS body tg .seq [.str y] clr env μ = forL body tg tt clr (signs y) env μ := forL_tt fun _ => stay_str _ _ _
@[simp] theorem forS_enum : forS body tg .enum [.lst xs] clr env μ = forL body tg tt clr (enumD 0 xs) env μ := forL_tt fun _ => stay_enum _ _ _
@[simp] theorem forS_rev : forS body tg .rev [.lst xs] clr env μ = forL body tg tt clr xs.reverse env μ := forL_tt fun _ => stay_rev _ _ _
theorem forS_rng1 {n : Int} (h : inR n = true) : forS body tg .rng1 [.int n] clr env μ = forL body tg tt clr ((List.range n.toNat).map fun (i : Nat) => D.int (i : Int)) env μ := by
  unfold forS
  rw [it_rng1 μ n h]
  exact forL_tt fun _ => stay_rng1 μ _ n h
end
@[simp] theorem take_pre {α : Type} (a b : List α) (k : Nat) : (a ++ b).take (a.length + k) = a ++ b.take k := by
  rw [List.take_append, List.take_of_length_le (Nat.le_add_right _ _), Nat.add_sub_cancel_left]
@[simp] theorem take_pre0 {α : Type} (a b : List α) : (a ++ b).take a.length = a := by simp
@[simp] theorem get_pre {α : Type} (a b : List α) (k : Nat) : (a ++ b)[a.length + k]? = b[k]? := by rw [List.getElem?_append_right (Nat.le_add_right _ _), Nat.add_sub_cancel_left]
@[simp] theorem get_pre0 {α : Type} (a b : List α) : (a ++ b)[a.length]? = b[0]? := get_pre a b 0
@[simp] theorem set_pre {α : Type} (a b : List α) (k : Nat) (c : α) : (a ++ b).set (a.length + k) c = a ++ b.set k c := by rw [List.set_append_right _ _ (Nat.le_add_right _ _), Nat.add_sub_cancel_left]
@[simp] theorem set_pre0 {α : Type} (a b : List α) (c : α) : (a ++ b).set a.length c = a ++ b.set 0 c := set_pre a b 0 c
@[simp] theorem keeps_cons' (n : Nat) (a b : Cell) (r s : Store) : keeps n (a :: r) (b :: s) = ((decide (b = a) || b.lt n) && keeps n r s) := (rfl)
@[simp] theorem leave_len' {μ μ' : Store} {d : D} (h : μ'.length = μ.length) : leave μ (.ok d μ') = .ok d μ' := leave_len h
@[simp] theorem leave_new' {μ t : Store} {d : D} (h : d.lt μ.length = true) : leave μ (.ok d (μ ++ t)) = .ok d μ := leave_new μ t h
/-- behind a call in which cells of the caller are new made -/
theorem leave_gen {μ μ' : Store} {d : D} : leave μ (.ok d μ') = if d.lt μ.length && keeps μ.length μ μ' then .ok d (μ'.take μ.length) else .ok d μ' := rfl
@[simp] theorem lts_strs (n : Nat) (l : List Str) : D.lts n (l.map D.str) = true := lts_map n _ _ fun _ _ => rfl
theorem lts_take' {n : Nat} : ∀ {l : List D} (k : Nat), D.lts n l = true → D.lts n (l.take k) = true
  | [], _, _ => by simp
  | _ :: _, 0, _ => rfl
  | x :: r, k + 1, h => by
    rw [lts_cons, Bool.and_eq_true] at h
    rw [List.take_succ_cons, lts_cons, h.1, lts_take' k h.2]
    rfl
@[simp] theorem lts_strs_take (n k : Nat) (l : List Str) : D.lts n ((l.map D.str).take k) = true := lts_take' k (lts_strs n l)
/-! ### closures -/
@[simp] theorem noClo_app (a b : Store) : noClo (a ++ b) = (noClo a && noClo b) := by unfold noClo; rw [List.all_append]
@[simp] theorem noClo_nil : noClo [] = true := (rfl)
@[simp] theorem noClo_lst (xs : List D) (r : Store) : noClo (.lst xs :: r) = noClo r := (rfl)
@[simp] theorem noClo_dic (t : Bool) (xs : List (D × D)) (r : Store) : noClo (.dic t xs :: r) = noClo r := (rfl)
@[simp] theorem noClo_ins (c : Nat) (xs : List (Nat × D)) (r : Store) : noClo (.ins c xs :: r) = noClo r := (rfl)
@[simp] theorem noClo_dead (r : Store) : noClo (.dead :: r) = noClo r := (rfl)
section
variable {P : Prog} {call : Nat → List D → Store → RD} {env : Env} {μ : Store} {d e : D} {a : CE}
def kClc2 (call : Nat → List D → Store → RD) (j : Nat) (r : RD) : RD := r.bind fun d μ => cloS call j [d] μ
def kClc (P : Prog) (call : Nat → List D → Store → RD) (a : CE) (env : Env) (μ : Store) : Option D → RD
  | some (.cell j) => if cloAt μ j then kClc2 call j (evE P call a env μ) else .bad
  | _ => .bad
@[simp] theorem evE_clc (i : Nat) : evE P call (.clc i a) env μ = kClc P call a env μ (getV env i) := by
  show (match getV env i with
    | some (.cell j) => if cloAt μ j then (evE P call a env μ).bind fun d μ => cloS call j [d] μ else .bad
    | _ => .bad) = _
  cases getV env i with
  | none => rfl
  | some d => cases d <;> rfl
@[simp] theorem kClc_cell (j : Nat) : kClc P call a env μ (some (.cell j)) = if cloAt μ j then kClc2 call j (evE P call a env μ) else .bad := (rfl)
@[simp] theorem kClc2_ok (j : Nat) : kClc2 call j (.ok d μ) = cloS call j [d] μ := (rfl)
@[simp] theorem cloAt_len (f : Nat) (cs : List D) (t : Store) : cloAt (μ ++ .clo f cs :: t) μ.length = true := by simp [cloAt]
/-- a closure, the last cell, called; what it calls leaves the store as it was -/
theorem cloS_last {f : Nat} {cs ds : List D} (hn : noClo μ = true) (h : call f (cs ++ ds) (μ ++ [.dead]) = .ok d (μ ++ [.dead])) : cloS call μ.length ds (μ ++ [.clo f cs]) = .ok d (μ ++ [.clo f cs]) := by
  unfold cloS
  have e1 : (μ ++ [Cell.clo f cs])[μ.length]? = some (.clo f cs) := by simp
  have e2 : (μ ++ [Cell.clo f cs]).set μ.length .dead = μ ++ [.dead] := by simp
  rw [e1]
  simp only
  rw [e2, if_pos (by simp [hn]), h]
  simp
def kMlam2 (call : Nat → List D → Store → RD) (d : D) (f : Nat) (cs : Option (List D)) (μ : Store) : Option Nat → RD
  | some g => match cs with
    | some cs => lamS call g d f cs μ
    | none => .bad
  | none => .bad
def kMlam (P : Prog) (call : Nat → List D → Store → RD) (m f : Nat) (cs : Option (List D)) (r : RD) : RD := r.bind fun d μ => kMlam2 call d f cs μ (methOf P μ m d)
@[simp] theorem evE_mlam (o : CE) (m f : Nat) (caps : List Nat) : evE P call (.mlam o m f caps) env μ = kMlam P call m f (caps.mapM (getV env)) (evE P call o env μ) := by
  show (evE P call o env μ).bind (fun d μ => match methOf P μ m d, caps.mapM (getV env) with
    | some g, some cs => lamS call g d f cs μ
    | _, _ => .bad) = _
  unfold kMlam
  congr 1
  funext d μ
  cases methOf P μ m d <;> cases caps.mapM (getV env) <;> rfl
@[simp] theorem kMlam_ok (m f : Nat) (cs : Option (List D)) : kMlam P call m f cs (.ok d μ) = kMlam2 call d f cs μ (methOf P μ m d) := (rfl)
@[simp] theorem kMlam2_some (f g : Nat) (cs : List D) : kMlam2 call d f (some cs) μ (some g) = lamS call g d f cs μ := (rfl)
def kDlam (call : Nat → List D → Store → RD) (g f : Nat) (cs : Option (List D)) (r : RD) : RD := r.bind fun d μ => match cs with
  | some cs => lamS call g d f cs μ
  | none => .bad
@[simp] theorem evE_dlam (g : Nat) (o : CE) (f : Nat) (caps : List Nat) : evE P call (.dlam g o f caps) env μ = kDlam call g f (caps.mapM (getV env)) (evE P call o env μ) := by
  show (evE P call o env μ).bind (fun d μ => match caps.mapM (getV env) with
    | some cs => lamS call g d f cs μ
    | none => .bad) = _
  unfold kDlam
  rfl
@[simp] theorem kDlam_ok (g f : Nat) (cs : List D) : kDlam call g f (some cs) (.ok d μ) = lamS call g d f cs μ := (rfl)
theorem lamS_pure {g f : Nat} {cs : List D} (hn : noClo μ = true) (h : call g [d, .cell μ.length] (μ ++ [.clo f cs]) = .ok e (μ ++ [.clo f cs])) (he : e.lt μ.length = true) : lamS call g d f cs μ = .ok e μ := by
  unfold lamS
  rw [h]
  simp [he, hn]
/-! ### the list in a field frozen -/
def kFrzf2 (j c f : Nat) (fs : List (Nat × D)) (env : Env) (μ : Store) : Option D → RS
  | some (.cell k) => match μ[k]? with
    | some (.lst xs) => if k = j then .bad else .ok (.nx, env) ((μ.set k .dead).set j (.ins c (fput fs f (.lst xs))))
    | _ => .bad
  | _ => .bad
def kFrzf (f : Nat) (env : Env) (μ : Store) : Option D → RS
  | some (.cell j) => match cI μ[j]? with
    | some (c, fs) => kFrzf2 j c f fs env μ (fget fs f)
    | none => .bad
  | _ => .bad
@[simp] theorem evS_frzf (i f : Nat) : evS P call (.frzf i f) env μ = kFrzf f env μ (getV env i) := by
  show (match frzF i f env μ with
    | some μ' => (Res.ok (Sg.nx, env) μ' : RS)
    | none => .bad) = _
  unfold frzF
  cases getV env i with
  | none => rfl
  | some d => cases d with
    | cell j =>
      cases h : μ[j]? with
      | none => simp [kFrzf, h, cI]
      | some c => cases c with
        | ins c fs =>
          simp only [kFrzf, h, cI]
          cases hf : fget fs f with
          | none => rfl
          | some d => cases d with
            | cell k =>
              simp only [kFrzf2]
              cases hk : μ[k]? with
              | none => rfl
              | some c2 => cases c2 with
                | lst xs => by_cases q : k = j <;> simp [q]
                | _ => rfl
            | _ => rfl
        | _ => simp [kFrzf, h, cI]
    | _ => rfl
theorem kFrzf_at {f j k c : Nat} {fs : List (Nat × D)} {xs : List D} (h : μ[j]? = some (.ins c fs)) (h2 : fget fs f = some (.cell k)) (h3 : μ[k]? = some (.lst xs)) (h4 : k ≠ j) :
    kFrzf f env μ (some (.cell j)) = .ok (.nx, env) ((μ.set k .dead).set j (.ins c (fput fs f (.lst xs)))) := by
  simp [kFrzf, h, kFrzf2, h2, h3, h4]
/-! ### setdefault -/
def kSetd2 (kvs : List (D × D)) (k e : D) (i : Nat) (μ : Store) : Option D → RD
  | some v => .ok v μ
  | none => .ok e (μ.set i (.dic false (kput kvs k e)))
def kSetd (k e : D) (i : Nat) (μ : Store) : Option Cell → RD
  | some (.dic false kvs) => if k.isKey && sz (kvs.length + 1) then kSetd2 kvs k e i μ (kfind kvs k) else .bad
  | _ => .bad
@[simp] theorem setd_v {fz : Bool} {k : D} (i : Nat) : bmS μ (.setdefault fz) (.cell i) [k, e] = kSetd k e i μ μ[i]? := by
  show ((match μ[i]? with
    | some (.dic false kvs) => if k.isKey && sz (kvs.length + 1) then match kfind kvs k with
        | some v => .ok v μ
        | none => .ok e (μ.set i (.dic false (kput kvs k e)))
      else .bad
    | _ => .bad) : RD) = _
  cases μ[i]? with
  | none => rfl
  | some c => cases c with
    | dic t kvs => cases t with
      | true => rfl
      | false =>
        simp only [kSetd]
        split
        · cases kfind kvs k <;> rfl
        · rfl
    | _ => rfl
@[simp] theorem kSetd_dic (k : D) (i : Nat) (kvs : List (D × D)) : kSetd k e i μ (some (.dic false kvs)) = if k.isKey && sz (kvs.length + 1) then kSetd2 kvs k e i μ (kfind kvs k) else .bad := (rfl)
@[simp] theorem kSetd2_some (kvs : List (D × D)) (k v : D) (i : Nat) : kSetd2 kvs k e i μ (some v) = .ok v μ := (rfl)
@[simp] theorem kSetd2_none (kvs : List (D × D)) (k : D) (i : Nat) : kSetd2 kvs k e i μ none = .ok e (μ.set i (.dic false (kput kvs k e))) := (rfl)
@[simp] theorem isKey_str (x : Str) : (D.str x).isKey = true := (rfl)
@[simp] theorem isKey_int (x : Int) : (D.int x).isKey = true := (rfl)
theorem setd_new {fz : Bool} {i : Nat} {kvs : List (D × D)} {k : D} (h : μ[i]? = some (.dic false kvs)) (hk : k.isKey = true) (hz : sz (kvs.length + 1) = true) (hf : kfind kvs k = none) : bmS μ (.setdefault fz) (.cell i) [k, e] = .ok e (μ.set i (.dic false (kput kvs k e))) := by
  simp [bmS, h, hk, hz, hf]
@[simp] theorem bmTy_setd (fz : Bool) (i : Nat) : bmTy μ (.setdefault fz) (.cell i) = (cD μ[i]?).isSome := by simp [bmTy]
theorem dict_copyF {fz : Bool} {t : Bool} {kvs : List (D × D)} (h : dicOf μ d = some (t, kvs)) (hz : (!t || decide (kvs.length ≤ 1)) = true) : biS μ (.dict fz) [d] = put μ fz (.dic t kvs) := by
  simp only [biS, h]
  rw [if_pos hz]
theorem eqS_nil {xs : List D} (h : lstOf μ d = some xs) : eqS μ d (.lst []) = some xs.isEmpty := by
  unfold eqS
  cases h0 : eqS0 μ d (.lst []) with
  | none => simp [h]
  | some b =>
    unfold eqS0 at h0
    cases hs : still μ d with
    | none => rw [hs] at h0; cases h0
    | some d' =>
      rw [hs] at h0
      have : d' = .lst xs := by
        cases d with
        | cell i =>
          unfold lstOf at h
          unfold still at hs
          simp only at h hs
          split at h
          · rename_i ys hc
            cases h
            rw [hc] at hs
            cases hs
            rfl
          · cases h
        | lst ys => cases h; cases hs; rfl
        | _ => cases h
      subst this
      simp only [still] at h0
      split at h0
      · cases h0
        cases xs <;> rfl
      · cases h0
end
end Co

set_option linter.all false
set_option maxRecDepth 100000
namespace Tx
open PySem L2 Co
def e_lam0 : CE := (.meth (.var 0) 4 (.acons (.var 2) (.acons (.var 1) .anil)))
def b_lam0 : CS := .ret e_lam0
def e_lam1 : CE := (.meth (.var 0) 4 (.acons (.var 2) (.acons (.var 1) .anil)))
def b_lam1 : CS := .ret e_lam1
def e_lam2 : CE := (.ix (.var 0) (.var 1))
def b_lam2 : CS := .ret e_lam2
def e_lam3 : CE := (.meth (.var 1) 4 (.acons (.var 2) (.acons (.var 0) .anil)))
def b_lam3 : CS := .ret e_lam3
def b_WrongKind___init__ : CS := (.seq (.exp .unk) (.sfld (.var 0) 0 (.var 1)))
def b_is_whole : CS := (.ret (.and (.isi (.var 0) [.int]) (.not (.isi (.var 0) [.bool]))))
def b_is_name : CS := (.seq (.ite (.or (.not (.isi (.var 0) [.str])) (.not (.chn .le .le (.lit (.int 1)) (.bi .len (.acons (.var 0) .anil)) (.glo 3)))) (.ret (.lit (.bl false))) .skip) (.seq (.for .seq (.acons (.var 0) .anil) (.nm 1) (.ite (.cmp .notin (.var 1) (.glo 0)) (.ret (.lit (.bl false))) .skip) [1]) (.ret (.cmp .notin (.var 0) (.glo 2)))))
def b_Kind___init__ : CS := (.seq (.sfld (.var 0) 1 (.var 1)) (.sfld (.var 0) 2 (.var 2)))
def b_Kind_fits : CS := (.ret (.lit (.bl false)))
def b_YesNo___init__ : CS := (.exp (.sup 3 (.acons (.var 0) (.acons (.lit (.int 0)) (.acons (.lit (.int 1)) .anil)))))
def b_YesNo_fits : CS := (.ret (.isi (.var 1) [.bool]))
def b_YesNo_rank : CS := (.ret (.bi .int (.acons (.var 1) .anil)))
def b_YesNo_sample : CS := (.ret (.cmp .eq (.var 1) (.lit (.int 1))))
def b_Whole_fits : CS := (.ret (.and (.call 1 (.acons (.var 1) .anil) []) (.chn .le .le (.fld (.var 0) 1) (.var 1) (.fld (.var 0) 2))))
def b_Whole_rank : CS := (.ret (.var 1))
def b_Whole_sample : CS := (.ret (.var 1))
def b_Names___init__ : CS := (.exp (.sup 3 (.acons (.var 0) (.acons (.lit (.int 0)) (.acons (.var 1) .anil)))))
def b_Names_fits : CS := (.seq (.ite (.or (.not (.isi (.var 1) [.tuple])) (.cmp .gt (.bi .len (.acons (.var 1) .anil)) (.fld (.var 0) 2))) (.ret (.lit (.bl false))) .skip) (.seq (.for .seq (.acons (.var 1) .anil) (.nm 2) (.ite (.not (.call 2 (.acons (.var 2) .anil) [])) (.ret (.lit (.bl false))) .skip) [2]) (.ret (.cmp .eq .unk (.bi .len (.acons (.var 1) .anil))))))
def b_Names_rank : CS := (.ret (.bi .len (.acons (.var 1) .anil)))
def b_Names_sample : CS := (.ret (.sl (.glo 4) .npt (.prt (.var 1))))
def b_Row___init__ : CS := (.sfld (.var 0) 0 (.var 1))
def b_Ask___init__ : CS := (.seq (.exp (.sup 16 (.acons (.var 0) (.acons (.var 1) .anil)))) (.seq (.sfld (.var 0) 3 (.var 2)) (.sfld (.var 0) 4 (.var 3))))
def b_Check___init__ : CS := (.seq (.exp (.sup 16 (.acons (.var 0) (.acons (.var 1) .anil)))) (.seq (.sfld (.var 0) 5 (.var 2)) (.sfld (.var 0) 6 (.var 3))))
def b_Sheet___init__ : CS := (.seq (.sfld (.var 0) 0 (.var 1)) (.seq (.sfld (.var 0) 7 (.var 2)) (.seq (.sfld (.var 0) 8 (.bi (.list true) (.acons (.var 3) .anil))) (.sfld (.var 0) 9 (.bi (.list true) (.acons (.var 4) .anil))))))
def b_Paper___init__ : CS := (.seq (.sfld (.var 0) 0 (.var 1)) (.seq (.sfld (.var 0) 10 (.bi (.list true) (.acons (.var 2) .anil))) (.sfld (.var 0) 11 (.bi (.list true) (.acons (.var 3) .anil)))))
def b_kinds_of : CS := (.seq (.asg (.nm 1) (.dnew false false)) (.seq (.for .seq (.acons (.fld (.var 0) 10) .anil) (.nm 2) (.seq (.clr [3]) (.for .seq (.acons (.fld (.var 2) 8) .anil) (.nm 3) (.ite (.isi (.var 3) [.own 6]) (.sidx (.var 1) (.fld (.var 3) 0) (.fld (.var 3) 3)) .skip) [3])) [2, 3]) (.seq (.frz 1) (.ret (.var 1)))))
def b_put_in : CS := (.seq (.for .seq (.acons (.ix (.var 0) (.var 1)) .anil) (.tp (.cons (.nm 3) (.cons (.nm 4) .nil))) (.ite (.and (.cmp .isin (.var 4) (.var 0)) (.cmp .notin (.var 4) (.var 2))) (.exp (.call 22 (.acons (.var 0) (.acons (.var 4) (.acons (.var 2) .anil))) [])) .skip) [3, 4]) (.seq (.asg (.nm 5) (.dnew false false)) (.seq (.asg (.nm 6) (.lit (.int 0))) (.seq (.clr [3, 4]) (.seq (.for .seq (.acons (.ix (.var 0) (.var 1)) .anil) (.tp (.cons (.nm 3) (.cons (.nm 4) .nil))) (.seq (.ite (.cmp .is (.var 4) (.lit .non)) (.asg (.nm 6) (.bin .add (.var 6) (.var 3))) (.seq (.ite (.cmp .isin (.var 4) (.var 0)) (.seq (.asg (.nm 6) (.bin .add (.var 6) (.bin .mul (.var 3) (.ix (.ix (.var 2) (.var 4)) (.lit (.int 1)))))) (.seq (.clr [7, 8]) (.for .items (.acons (.ix (.ix (.var 2) (.var 4)) (.lit (.int 0))) .anil) (.tp (.cons (.nm 7) (.cons (.nm 8) .nil))) (.sidx (.var 5) (.var 7) (.bin .add (.bm .get (.var 5) (.acons (.var 7) (.acons (.lit (.int 0)) .anil))) (.bin .mul (.var 3) (.var 8)))) [7, 8]))) (.sidx (.var 5) (.var 4) (.bin .add (.bm .get (.var 5) (.acons (.var 4) (.acons (.lit (.int 0)) .anil))) (.var 3)))) (.clr [7, 8]))) (.clr [7, 8])) [3, 4, 7, 8]) (.seq (.frz 5) (.sidx (.var 2) (.var 1) (.tup (.acons (.var 5) (.acons (.var 6) .anil))))))))))
def b_put_together : CS := (.seq (.asg (.nm 2) (.dnew false false)) (.seq (.exp (.call 22 (.acons (.bi (.dict true) (.acons (.fld (.var 0) 11) .anil)) (.acons (.var 1) (.acons (.var 2) .anil))) [])) (.seq (.asg (.tp (.cons (.nm 3) (.cons (.nm 4) .nil))) (.ix (.var 2) (.var 1))) (.ret (.tup (.acons (.lc true .items (.acons (.var 3) .anil) (.tp (.cons (.nm 5) (.cons (.nm 6) .nil))) (.cmp .ne (.var 6) (.lit (.int 0))) (.tup (.acons (.var 6) (.acons (.var 5) .anil))) [5, 6]) (.acons (.var 4) .anil)))))))
def b_compared : CS := (.seq (.ite (.cmp .eq (.var 0) (.lit (.str "<"))) (.ret (.cmp .lt (.var 1) (.var 2))) .skip) (.seq (.ite (.cmp .eq (.var 0) (.lit (.str "="))) (.ret (.cmp .eq (.var 1) (.var 2))) .skip) (.ret (.cmp .gt (.var 1) (.var 2)))))
def b_spanned : CS := (.seq (.ite (.cmp .is (.var 0) (.lit .non)) (.ret (.lit (.bl false))) .skip) (.seq (.asg (.tp (.cons (.nm 3) (.cons (.nm 4) .nil))) (.var 0)) (.seq (.asg (.nm 5) (.call 24 (.acons (.var 1) (.acons (.var 3) (.acons (.var 2) .anil))) [])) (.seq (.asg (.nm 6) (.call 24 (.acons (.var 1) (.acons (.var 4) (.acons (.var 2) .anil))) [])) (.seq (.ite (.and (.var 5) (.var 6)) (.ret (.lit (.bl true))) .skip) (.seq (.ite (.or (.var 5) (.or (.var 6) (.and (.cmp .eq (.var 1) (.lit (.str "="))) (.and (.cmp .lt (.var 3) (.var 2)) (.cmp .lt (.var 2) (.var 4)))))) (.ret (.lit .non)) .skip) (.ret (.lit (.bl false)))))))))
def b_Saying_atoms : CS := (.ret (.lst true (.acons (.var 0) .anil)))
def b_Saying_first_open : CS := (.seq (.for .seq (.acons (.meth (.var 0) 0 .anil) .anil) (.nm 2) (.ite (.cmp .is (.meth (.var 2) 1 (.acons (.var 1) .anil)) (.lit .non)) (.ret (.var 2)) .skip) [2]) (.ret (.lit .non)))
def b_Compare___init__ : CS := (.seq (.sfld (.var 0) 0 (.var 1)) (.seq (.sfld (.var 0) 12 (.var 2)) (.sfld (.var 0) 13 (.var 3))))
def b_Compare_settled : CS := (.seq (.ite (.and (.cmp .isin (.fld (.var 0) 0) (.var 1)) (.not (.isi (.ix (.var 1) (.fld (.var 0) 0)) [.own 2, .own 3, .own 4]))) (.raise 17 (.acons (.fld (.var 0) 0) .anil)) .skip) (.ret (.make 11 true (.acons (.fld (.var 0) 0) (.acons (.fld (.var 0) 12) (.acons (.fld (.var 0) 13) .anil))) [])))
def b_Compare_holds : CS := (.seq (.asg (.nm 2) (.clc 1 (.fld (.var 0) 0))) (.ret (.and (.cmp .isnt (.var 2) (.lit .non)) (.call 24 (.acons (.fld (.var 0) 12) (.acons (.var 2) (.acons (.fld (.var 0) 13) .anil))) []))))
def b_Compare_sure : CS := (.ret (.call 25 (.acons (.clc 1 (.fld (.var 0) 0)) (.acons (.fld (.var 0) 12) (.acons (.fld (.var 0) 13) .anil))) []))
def b_span_in : CS := (.seq (.asg (.nm 4) (.ix (.var 0) (.var 2))) (.ret (.bm .get (.var 1) (.acons (.tup (.acons (.var 2) (.acons (.var 3) .anil))) (.acons (.tup (.acons (.fld (.var 4) 1) (.acons (.fld (.var 4) 2) .anil))) .anil)))))
def b_cut_for : CS := (.seq (.asg (.nm 3) (.lit (.str "="))) (.seq (.asg (.nm 4) (.lit (.int 0))) (.seq (.ite (.isi (.var 0) [.own 11]) (.seq (.asg (.nm 3) (.fld (.var 0) 12)) (.asg (.nm 4) (.fld (.var 0) 13))) (.asg (.nm 4) (.fld (.var 0) 14))) (.seq (.ite (.or (.cmp .eq (.var 3) (.lit (.str "<"))) (.and (.cmp .eq (.var 3) (.lit (.str "="))) (.cmp .lt (.var 1) (.var 4)))) (.ret (.bin .sub (.var 4) (.lit (.int 1)))) .skip) (.ret (.var 4))))))
def b_Boxed___init__ : CS := (.seq (.sfld (.var 0) 15 (.var 1)) (.seq (.sfld (.var 0) 16 (.var 2)) (.seq (.sfld (.var 0) 17 (.call 21 (.acons (.var 1) .anil) [])) (.seq (.sfld (.var 0) 18 (.dnew false false)) (.seq (.for .seq (.acons (.fld (.var 1) 11) .anil) (.tp (.cons (.nm 3) (.cons (.nm 4) .nil))) (.sidx (.fld (.var 0) 18) (.var 3) (.call 23 (.acons (.var 1) (.acons (.var 3) .anil)) [])) [3, 4]) (.seq (.sfld (.var 0) 19 (.dnew false false)) (.seq (.for .seq (.acons (.fld (.var 1) 10) .anil) (.nm 5) (.seq (.clr [6]) (.for .seq (.acons (.fld (.var 5) 8) .anil) (.nm 6) (.sidx (.fld (.var 0) 19) (.fld (.var 6) 0) (.cmp .isnt (.fld (.var 5) 7) (.lit .non))) [6])) [5, 6]) (.seq (.sfld (.var 0) 20 (.lst false .anil)) (.seq (.sfld (.var 0) 21 (.dnew true false)) (.seq (.sfld (.var 0) 22 (.dnew false false)) (.seq (.sfld (.var 0) 23 (.lst false .anil)) (.sfld (.var 0) 24 (.lit .non)))))))))))))
def b_Boxed_key : CS := (.seq (.ite (.ix (.fld (.var 0) 19) (.var 1)) (.ret (.tup (.acons (.var 1) (.acons (.var 2) .anil)))) .skip) (.ret (.tup (.acons (.var 1) (.acons (.lit (.int 0)) .anil)))))
def b_Boxed_sum_span : CS := (.seq (.asg (.tp (.cons (.nm 2) (.cons (.nm 3) .nil))) (.ix (.fld (.var 0) 18) (.var 1))) (.seq (.asg (.nm 4) (.var 3)) (.seq (.for .seq (.acons (.var 2) .anil) (.tp (.cons (.nm 5) (.cons (.nm 6) .nil))) (.seq (.clr [7, 8, 9]) (.for .seq (.acons (.bm .get (.fld (.var 0) 22) (.acons (.var 6) (.acons (.lst true .anil) .anil))) .anil) (.nm 7) (.seq (.asg (.tp (.cons (.nm 8) (.cons (.nm 9) .nil))) (.ix (.fld (.var 0) 21) (.tup (.acons (.var 6) (.acons (.var 7) .anil))))) (.seq (.aug 3 .add (.bi .min (.acons (.bin .mul (.var 5) (.var 8)) (.acons (.bin .mul (.var 5) (.var 9)) .anil)))) (.aug 4 .add (.bi .max (.acons (.bin .mul (.var 5) (.var 8)) (.acons (.bin .mul (.var 5) (.var 9)) .anil)))))) [7, 8, 9])) [5, 6, 7, 8, 9]) (.ret (.tup (.acons (.var 3) (.acons (.var 4) .anil)))))))
def b_Boxed_look : CS := (.seq (.ite (.cmp .isin (.var 1) (.fld (.var 0) 18)) (.ret (.meth (.var 0) 2 (.acons (.var 1) .anil))) .skip) (.ret (.bm .get (.fld (.var 0) 21) (.acons (.meth (.var 0) 3 (.acons (.var 1) (.acons (.var 2) .anil))) .anil))))
def b_Boxed_part_at : CS := (.seq (.ite (.cmp .notin (.fld (.var 1) 0) (.fld (.var 0) 18)) (.seq (.asg (.tp (.cons (.nm 3) (.cons (.nm 4) .nil))) (.meth (.var 0) 4 (.acons (.fld (.var 1) 0) (.acons (.var 2) .anil)))) (.seq (.asg (.nm 5) (.meth (.var 0) 3 (.acons (.fld (.var 1) 0) (.acons (.var 2) .anil)))) (.ret (.tup (.acons (.ix (.var 5) (.lit (.int 0))) (.acons (.ix (.var 5) (.lit (.int 1))) (.acons (.call 33 (.acons (.var 1) (.acons (.var 3) (.acons (.var 4) .anil))) []) .anil))))))) .skip) (.seq (.clr [3, 4, 5]) (.seq (.clr [3, 4]) (.seq (.for .seq (.acons (.ix (.ix (.fld (.var 0) 18) (.fld (.var 1) 0)) (.lit (.int 0))) .anil) (.tp (.cons (.nm 6) (.cons (.nm 7) .nil))) (.seq (.clr [3, 4, 8]) (.for .seq (.acons (.bm .get (.fld (.var 0) 22) (.acons (.var 7) (.acons (.lst true .anil) .anil))) .anil) (.nm 8) (.seq (.asg (.tp (.cons (.nm 3) (.cons (.nm 4) .nil))) (.ix (.fld (.var 0) 21) (.tup (.acons (.var 7) (.acons (.var 8) .anil))))) (.ite (.cmp .lt (.var 3) (.var 4)) (.ret (.tup (.acons (.var 7) (.acons (.var 8) (.acons (.bin .fdiv (.bin .add (.var 3) (.var 4)) (.lit (.int 2))) .anil))))) .skip)) [3, 4, 8])) [3, 4, 6, 7, 8]) (.ret (.lit .non))))))
def b_Boxed_agreed : CS := (.seq (.ite (.cmp .is (.var 1) (.lit .non)) (.ret (.lit (.bl true))) .skip) (.seq (.asg (.nm 1) (.meth (.var 1) 5 (.acons (.fld (.var 0) 17) .anil))) (.seq (.asg (.nm 3) (.mlam (.var 1) 1 78 [0, 2])) (.seq (.ite (.cmp .is (.var 3) (.lit .non)) (.sfld (.var 0) 24 (.meth (.var 0) 6 (.acons (.mlam (.var 1) 7 79 [0, 2]) (.acons (.var 2) .anil)))) .skip) (.ret (.var 3))))))
def b_Boxed_asked : CS := (.seq (.sidx (.fld (.var 0) 21) (.tup (.acons (.fld (.var 1) 0) (.acons (.var 2) .anil))) (.call 32 (.acons (.fld (.var 0) 17) (.acons (.fld (.var 0) 16) (.acons (.fld (.var 1) 0) (.acons (.var 2) .anil)))) [])) (.seq (.exp (.bm .append (.bm (.setdefault true) (.fld (.var 0) 22) (.acons (.fld (.var 1) 0) (.acons (.lst false .anil) .anil))) (.acons (.var 2) .anil))) (.exp (.bm .append (.fld (.var 0) 20) (.acons (.tup (.acons (.lit (.str "ask")) (.acons (.fld (.var 1) 0) (.acons (.var 2) .anil)))) .anil)))))
def b_Boxed_checked : CS := (.seq (.ite (.var 3) (.exp (.bm .append (.fld (.var 0) 20) (.acons (.tup (.acons (.lit (.str "pass")) (.acons (.fld (.var 1) 0) (.acons (.var 2) .anil)))) .anil))) (.ite (.fld (.var 1) 6) (.exp (.bm .append (.fld (.var 0) 20) (.acons (.tup (.acons (.lit (.str "held")) (.acons (.fld (.var 1) 0) (.acons (.var 2) .anil)))) .anil))) (.exp (.bm .append (.fld (.var 0) 20) (.acons (.tup (.acons (.lit (.str "warn")) (.acons (.fld (.var 1) 0) (.acons (.var 2) .anil)))) .anil))))) (.ret (.or (.var 3) (.not (.fld (.var 1) 6)))))
def b_Boxed_through : CS := (.seq (.for .seq (.acons (.fld (.var 1) 8) .anil) (.nm 3) (.seq (.asg (.nm 4) (.ite (.isi (.var 3) [.own 7]) (.fld (.var 3) 5) (.fld (.var 3) 4))) (.seq (.asg (.nm 5) (.meth (.var 0) 8 (.acons (.var 4) (.acons (.var 2) .anil)))) (.seq (.ite (.cmp .is (.var 5) (.lit .non)) (.ret (.lit (.bl false))) .skip) (.ite (.isi (.var 3) [.own 7]) (.ite (.not (.meth (.var 0) 9 (.acons (.var 3) (.acons (.var 2) (.acons (.var 5) .anil))))) (.ret (.lit (.bl false))) .skip) (.ite (.var 5) (.exp (.meth (.var 0) 10 (.acons (.var 3) (.acons (.var 2) .anil)))) .skip))))) [3, 4, 5]) (.ret (.lit (.bl true))))
def b_Boxed_turns_of : CS := (.seq (.ite (.cmp .is (.fld (.var 1) 7) (.lit .non)) (.ret (.lit (.int 1))) .skip) (.seq (.asg (.tp (.cons (.nm 2) (.cons (.nm 3) .nil))) (.bm .get (.fld (.var 0) 21) (.acons (.tup (.acons (.fld (.var 1) 7) (.acons (.lit (.int 0)) .anil))) (.acons (.tup (.acons (.lit (.int 0)) (.acons (.lit (.int 0)) .anil))) .anil)))) (.seq (.ite (.cmp .lt (.var 2) (.var 3)) (.seq (.sfld (.var 0) 24 (.tup (.acons (.fld (.var 1) 7) (.acons (.lit (.int 0)) (.acons (.var 2) .anil))))) (.ret (.lit .non))) .skip) (.ret (.var 2)))))
def b_Boxed_way_out : CS := (.seq (.asg (.nm 2) (.lst false .anil)) (.seq (.for .seq (.acons (.fld (.var 1) 9) .anil) (.tp (.cons (.nm 3) (.cons (.nm 4) .nil))) (.seq (.asg (.nm 5) (.meth (.var 0) 8 (.acons (.var 4) (.acons (.lit (.int 0)) .anil)))) (.seq (.ite (.cmp .is (.var 5) (.lit .non)) (.ret (.lit .non)) .skip) (.ite (.var 5) (.exp (.bm .append (.var 2) (.acons (.var 3) .anil))) .skip))) [3, 4, 5]) (.seq (.ite (.cmp .gt (.bi .len (.acons (.var 2) .anil)) (.lit (.int 1))) (.exp (.bm .append (.fld (.var 0) 23) (.acons (.fld (.var 1) 0) .anil))) .skip) (.seq (.frz 2) (.ret (.var 2))))))
def b_Boxed_sheet_done : CS := (.seq (.asg (.nm 2) (.meth (.var 0) 11 (.acons (.var 1) .anil))) (.seq (.ite (.cmp .is (.var 2) (.lit .non)) (.ret (.lit .non)) .skip) (.seq (.for .rng1 (.acons (.var 2) .anil) (.nm 3) (.ite (.not (.meth (.var 0) 12 (.acons (.var 1) (.acons (.var 3) .anil)))) (.ret (.lit .non)) .skip) [3]) (.ret (.meth (.var 0) 13 (.acons (.var 1) .anil))))))
def b_going_by : CS := (.seq (.asg (.nm 2) (.make 12 false (.acons (.var 0) (.acons (.var 1) .anil)) [])) (.seq (.asg (.nm 3) (.lit .non)) (.seq (.for .seq (.acons (.fld (.var 0) 10) .anil) (.nm 4) (.seq (.ite (.and (.cmp .isnt (.var 3) (.lit .non)) (.cmp .ne (.var 3) (.fld (.var 4) 0))) .cnt .skip) (.seq (.asg (.nm 5) (.meth (.var 2) 14 (.acons (.var 4) .anil))) (.seq (.ite (.cmp .is (.var 5) (.lit .non)) (.seq (.frzf 2 20) (.seq (.frzf 2 23) (.ret (.tup (.acons (.cmp .is (.fld (.var 2) 24) (.lit .non)) (.acons (.fld (.var 2) 20) (.acons (.fld (.var 2) 23) (.acons (.fld (.var 2) 24) .anil)))))))) .skip) (.seq (.asg (.nm 3) (.lit .non)) (.ite (.cmp .ne (.var 5) (.lst true .anil)) (.asg (.nm 3) (.ix (.var 5) (.lit (.int 0)))) .skip))))) [4, 5]) (.seq (.exp (.bm .append (.fld (.var 2) 20) (.acons (.tup (.acons (.lit (.str "end")) .anil)) .anil))) (.seq (.frzf 2 20) (.seq (.frzf 2 23) (.ret (.tup (.acons (.lit (.bl true)) (.acons (.fld (.var 2) 20) (.acons (.fld (.var 2) 23) (.acons (.lit .non) .anil))))))))))))
def b_parts_of_box : CS := (.seq (.asg (.tp (.cons (.nm 5) (.cons (.nm 6) .nil))) (.call 32 (.acons (.var 0) (.acons (.var 1) (.acons (.var 2) (.acons (.var 3) .anil)))) [])) (.seq (.asg (.nm 7) (.bi (.dict false) (.acons (.var 1) .anil))) (.seq (.sidx (.var 7) (.tup (.acons (.var 2) (.acons (.var 3) .anil))) (.tup (.acons (.var 5) (.acons (.var 4) .anil)))) (.seq (.asg (.nm 8) (.bi (.dict false) (.acons (.var 1) .anil))) (.seq (.sidx (.var 8) (.tup (.acons (.var 2) (.acons (.var 3) .anil))) (.tup (.acons (.bin .add (.var 4) (.lit (.int 1))) (.acons (.var 6) .anil)))) (.seq (.frz 8) (.seq (.frz 7) (.ret (.lst true (.acons (.var 7) (.acons (.var 8) .anil)))))))))))
def b_ranges_of : CS := (.seq (.asg (.nm 3) (.lst false .anil)) (.seq (.for .seq (.acons (.var 2) .anil) (.nm 4) (.seq (.ite (.cmp .eq (.ix (.var 4) (.lit (.int 0))) (.lit (.str "ask"))) (.seq (.asg (.tp (.cons (.nm 5) (.cons (.nm 6) .nil))) (.call 32 (.acons (.var 0) (.acons (.var 1) (.acons (.ix (.var 4) (.lit (.int 1))) (.acons (.ix (.var 4) (.lit (.int 2))) .anil)))) [])) (.exp (.bm .append (.var 3) (.acons (.tup (.acons (.ix (.var 4) (.lit (.int 1))) (.acons (.ix (.var 4) (.lit (.int 2))) (.acons (.var 5) (.acons (.var 6) .anil))))) .anil)))) .skip) (.clr [5, 6])) [4, 5, 6]) (.seq (.frz 3) (.ret (.var 3)))))
def b_cover : CS := (.seq (.asg (.nm 3) (.call 21 (.acons (.var 0) .anil) [])) (.seq (.asg (.nm 4) (.lst false (.acons (.dnew true true) .anil))) (.seq (.ite (.cmp .isnt (.var 2) (.lit .non)) (.asg (.nm 4) (.lst false (.acons (.bi (.dict true) (.acons (.var 2) .anil)) .anil))) .skip) (.seq (.asg (.nm 5) (.lst false .anil)) (.seq (.asg (.nm 6) (.lit (.int 0))) (.seq (.while (.cmp .lt (.bi .len (.acons (.var 5) .anil)) (.bi .len (.acons (.var 4) .anil))) (.seq (.asg (.nm 7) (.ix (.var 4) (.bi .len (.acons (.var 5) .anil)))) (.seq (.asg (.tp (.cons (.nm 8) (.cons (.nm 9) (.cons (.nm 10) (.cons (.nm 11) .nil))))) (.call 46 (.acons (.var 0) (.acons (.var 7) .anil)) [])) (.seq (.ite (.or (.var 8) (.cmp .ge (.var 6) (.var 1))) (.exp (.bm .append (.var 5) (.acons (.tup (.acons (.lit (.str "leaf")) (.acons (.var 8) (.acons (.var 9) (.acons (.call 48 (.acons (.var 3) (.acons (.var 7) (.acons (.var 9) .anil))) []) (.acons (.var 10) .anil)))))) .anil))) (.seq (.aug 6 .add (.lit (.int 1))) (.seq (.asg (.tp (.cons (.nm 12) (.cons (.nm 13) (.cons (.nm 14) .nil)))) (.var 11)) (.seq (.exp (.bm .append (.var 5) (.acons (.tup (.acons (.lit (.str "split")) (.acons (.var 12) (.acons (.var 13) (.acons (.var 14) (.acons (.bi .len (.acons (.var 4) .anil)) (.acons (.bin .add (.bi .len (.acons (.var 4) .anil)) (.lit (.int 1))) .anil))))))) .anil))) (.exp (.bm .extend (.var 4) (.acons (.call 47 (.acons (.var 3) (.acons (.var 7) (.acons (.var 12) (.acons (.var 13) (.acons (.var 14) .anil))))) []) .anil))))))) (.clr [12, 13, 14])))) [7, 8, 9, 10, 11, 12, 13, 14]) (.seq (.frz 5) (.ret (.var 5)))))))))
def b_worth : CS := (.seq (.asg (.nm 2) (.lit (.int 0))) (.seq (.for .seq (.acons (.var 0) .anil) (.tp (.cons (.nm 3) (.cons (.nm 4) .nil))) (.ite (.cmp .is (.var 4) (.lit .non)) (.aug 2 .add (.var 3)) (.aug 2 .add (.bin .mul (.var 3) (.clc 1 (.var 4))))) [3, 4]) (.ret (.var 2))))
def b_reckon : CS := (.seq (.for .seq (.acons (.ix (.var 0) (.var 3)) .anil) (.tp (.cons (.nm 4) (.cons (.nm 5) .nil))) (.ite (.and (.cmp .isnt (.var 5) (.lit .non)) (.cmp .notin (.var 5) (.var 2))) (.ite (.cmp .isin (.var 5) (.var 0)) (.exp (.call 51 (.acons (.var 0) (.acons (.var 1) (.acons (.var 2) (.acons (.var 5) .anil)))) [])) (.sidx (.var 2) (.var 5) (.bm .get (.var 1) (.acons (.var 5) (.acons (.lit (.int 0)) .anil))))) .skip) [4]) (.sidx (.var 2) (.var 3) (.dlam 50 (.ix (.var 0) (.var 3)) 80 [2])))
def b_total_of : CS := (.seq (.asg (.nm 3) (.dnew false false)) (.seq (.exp (.call 51 (.acons (.var 0) (.acons (.var 1) (.acons (.var 3) (.acons (.var 2) .anil)))) [])) (.ret (.ix (.var 3) (.var 2)))))
def b_Walk___init__ : CS := (.seq (.sfld (.var 0) 17 (.call 21 (.acons (.var 1) .anil) [])) (.seq (.sfld (.var 0) 11 (.bi (.dict true) (.acons (.fld (.var 1) 11) .anil))) (.seq (.sfld (.var 0) 25 (.var 2)) (.seq (.sfld (.var 0) 20 (.lst false .anil)) (.seq (.sfld (.var 0) 26 (.dnew true false)) (.sfld (.var 0) 27 (.dnew false false)))))))
def b_Walk_look : CS := (.seq (.ite (.cmp .isin (.var 1) (.fld (.var 0) 11)) (.ret (.call 52 (.acons (.fld (.var 0) 11) (.acons (.fld (.var 0) 27) (.acons (.var 1) .anil))) [])) .skip) (.seq (.asg (.nm 3) (.bm .get (.fld (.var 0) 26) (.acons (.tup (.acons (.var 1) (.acons (.var 2) .anil))) .anil))) (.seq (.ite (.cmp .is (.var 3) (.lit .non)) (.ret (.bm .get (.fld (.var 0) 26) (.acons (.tup (.acons (.var 1) (.acons (.lit (.str "")) .anil))) .anil))) .skip) (.ret (.var 3)))))
def b_Walk_agreed : CS := (.seq (.ite (.cmp .is (.var 1) (.lit .non)) (.ret (.lit (.bl true))) .skip) (.ret (.mlam (.meth (.var 1) 5 (.acons (.fld (.var 0) 17) .anil)) 15 81 [2, 0])))
def b_Walk_asked : CS := (.seq (.asg (.nm 3) (.bm .get (.fld (.var 0) 25) (.acons (.tup (.acons (.fld (.var 1) 0) (.acons (.var 2) .anil))) .anil))) (.seq (.ite (.not (.meth (.fld (.var 1) 3) 16 (.acons (.var 3) .anil))) (.seq (.exp (.bm .append (.fld (.var 0) 20) (.acons (.tup (.acons (.lit (.str "open")) (.acons (.fld (.var 1) 0) (.acons (.var 2) .anil)))) .anil))) (.ret (.lit (.bl false)))) .skip) (.seq (.asg (.nm 4) (.meth (.fld (.var 1) 3) 17 (.acons (.var 3) .anil))) (.seq (.sidx (.fld (.var 0) 26) (.tup (.acons (.fld (.var 1) 0) (.acons (.var 2) .anil))) (.var 4)) (.seq (.sidx (.fld (.var 0) 27) (.fld (.var 1) 0) (.bin .add (.bm .get (.fld (.var 0) 27) (.acons (.fld (.var 1) 0) (.acons (.lit (.int 0)) .anil))) (.var 4))) (.seq (.exp (.bm .append (.fld (.var 0) 20) (.acons (.tup (.acons (.lit (.str "ask")) (.acons (.fld (.var 1) 0) (.acons (.var 2) (.acons (.var 3) .anil))))) .anil))) (.ret (.lit (.bl true)))))))))
def b_Walk_checked : CS := (.seq (.ite (.meth (.var 0) 8 (.acons (.fld (.var 1) 5) (.acons (.var 2) .anil))) (.seq (.exp (.bm .append (.fld (.var 0) 20) (.acons (.tup (.acons (.lit (.str "pass")) (.acons (.fld (.var 1) 0) (.acons (.var 2) .anil)))) .anil))) (.ret (.lit (.bl true)))) .skip) (.seq (.ite (.fld (.var 1) 6) (.seq (.exp (.bm .append (.fld (.var 0) 20) (.acons (.tup (.acons (.lit (.str "held")) (.acons (.fld (.var 1) 0) (.acons (.var 2) .anil)))) .anil))) (.ret (.lit (.bl false)))) .skip) (.seq (.exp (.bm .append (.fld (.var 0) 20) (.acons (.tup (.acons (.lit (.str "warn")) (.acons (.fld (.var 1) 0) (.acons (.var 2) .anil)))) .anil))) (.ret (.lit (.bl true))))))
def b_Walk_through : CS := (.seq (.for .seq (.acons (.fld (.var 1) 8) .anil) (.nm 3) (.ite (.isi (.var 3) [.own 7]) (.ite (.not (.meth (.var 0) 9 (.acons (.var 3) (.acons (.var 2) .anil)))) (.ret (.lit (.bl false))) .skip) (.ite (.and (.meth (.var 0) 8 (.acons (.fld (.var 3) 4) (.acons (.var 2) .anil))) (.not (.meth (.var 0) 10 (.acons (.var 3) (.acons (.var 2) .anil))))) (.ret (.lit (.bl false))) .skip)) [3]) (.ret (.lit (.bl true))))
def b_Walk_things : CS := (.seq (.ite (.cmp .is (.fld (.var 1) 7) (.lit .non)) (.ret (.lst true (.acons (.lit (.str "")) .anil))) .skip) (.seq (.ite (.cmp .notin (.tup (.acons (.fld (.var 1) 7) (.acons (.lit (.str "")) .anil))) (.fld (.var 0) 26)) (.ret (.lst true .anil)) .skip) (.ret (.bi (.list true) (.acons (.ix (.fld (.var 0) 25) (.tup (.acons (.fld (.var 1) 7) (.acons (.lit (.str "")) .anil)))) .anil)))))
def b_Walk_way_out : CS := (.seq (.for .seq (.acons (.fld (.var 1) 9) .anil) (.tp (.cons (.nm 2) (.cons (.nm 3) .nil))) (.ite (.meth (.var 0) 8 (.acons (.var 3) (.acons (.lit (.str "")) .anil))) (.ret (.var 2)) .skip) [2, 3]) (.ret (.lit .non)))
def b_straight : CS := (.seq (.asg (.nm 2) (.make 13 false (.acons (.var 0) (.acons (.var 1) .anil)) [])) (.seq (.asg (.nm 3) (.lit .non)) (.seq (.for .seq (.acons (.fld (.var 0) 10) .anil) (.nm 4) (.seq (.ite (.or (.cmp .is (.var 3) (.lit .non)) (.cmp .eq (.var 3) (.fld (.var 4) 0))) (.seq (.clr [5]) (.seq (.for .seq (.acons (.meth (.var 2) 18 (.acons (.var 4) .anil)) .anil) (.nm 5) (.ite (.not (.meth (.var 2) 12 (.acons (.var 4) (.acons (.var 5) .anil)))) (.seq (.frzf 2 20) (.ret (.fld (.var 2) 20))) .skip) [5]) (.asg (.nm 3) (.meth (.var 2) 13 (.acons (.var 4) .anil))))) .skip) (.clr [5])) [4, 5]) (.seq (.exp (.bm .append (.fld (.var 2) 20) (.acons (.tup (.acons (.lit (.str "end")) .anil)) .anil))) (.seq (.frzf 2 20) (.ret (.fld (.var 2) 20)))))))
def b_leaves_of : CS := (.ret (.lc true .seq (.acons (.var 0) .anil) (.nm 1) (.cmp .eq (.ix (.var 1) (.lit (.int 0))) (.lit (.str "leaf"))) (.var 1) [1]))
def b_eaches_of : CS := (.seq (.asg (.nm 1) (.dnew false false)) (.seq (.for .seq (.acons (.fld (.var 0) 10) .anil) (.nm 2) (.seq (.clr [3]) (.for .seq (.acons (.fld (.var 2) 8) .anil) (.nm 3) (.sidx (.var 1) (.fld (.var 3) 0) (.fld (.var 2) 7)) [3])) [2, 3]) (.seq (.frz 1) (.ret (.var 1)))))
def b_row_by : CS := (.seq (.asg (.nm 4) (.call 21 (.acons (.var 0) .anil) [])) (.seq (.asg (.nm 5) (.call 63 (.acons (.var 0) .anil) [])) (.seq (.asg (.nm 6) (.dnew false false)) (.seq (.asg (.nm 7) (.lst false .anil)) (.seq (.for .seq (.acons (.sl (.ix (.var 1) (.lit (.int 3))) .npt (.prt (.var 2))) .anil) (.tp (.cons (.nm 8) (.cons (.nm 9) (.cons (.nm 10) (.cons (.nm 11) .nil))))) (.seq (.asg (.nm 12) (.bm .get (.var 3) (.acons (.tup (.acons (.var 8) (.acons (.var 9) .anil))) (.acons (.meth (.ix (.var 4) (.var 8)) 19 (.acons (.var 10) .anil)) .anil)))) (.seq (.asg (.nm 13) (.lit (.str ""))) (.seq (.ite (.cmp .isnt (.ix (.var 5) (.var 8)) (.lit .non)) (.asg (.nm 13) (.ix (.ix (.var 6) (.ix (.var 5) (.var 8))) (.var 9))) (.sidx (.var 6) (.var 8) (.var 12))) (.exp (.bm .append (.var 7) (.acons (.tup (.acons (.var 8) (.acons (.var 13) (.acons (.var 12) .anil)))) .anil)))))) [8, 9, 10, 11, 12, 13]) (.seq (.frz 7) (.ret (.var 7))))))))
def b_none_comes : CS := (.seq (.for .seq (.acons (.call 62 (.acons (.var 0) .anil) []) .anil) (.nm 1) (.ite (.not (.ix (.var 1) (.lit (.int 1)))) (.ret (.tup (.acons (.lit (.str "unknown")) (.acons (.var 0) .anil)))) .skip) [1]) (.ret (.tup (.acons (.lit (.str "shut")) (.acons (.var 0) .anil)))))
def b_first_row : CS := (.seq (.asg (.nm 4) (.call 49 (.acons (.var 0) (.acons (.var 1) .anil)) [.non])) (.seq (.for .seq (.acons (.call 62 (.acons (.var 4) .anil) []) .anil) (.nm 5) (.seq (.asg (.nm 6) (.lit (.int 0))) (.seq (.clr [7]) (.for .seq (.acons (.ix (.var 5) (.lit (.int 2))) .anil) (.nm 7) (.seq (.ite (.and (.cmp .eq (.ix (.var 7) (.lit (.int 0))) (.var 2)) (.cmp .eq (.ix (.var 7) (.lit (.int 1))) (.var 3))) (.ret (.tup (.acons (.lit (.str "row")) (.acons (.call 64 (.acons (.var 0) (.acons (.var 5) (.acons (.var 6) (.acons (.dnew true true) .anil)))) []) .anil)))) .skip) (.aug 6 .add (.bi .int (.acons (.cmp .eq (.ix (.var 7) (.lit (.int 0))) (.lit (.str "ask"))) .anil)))) [7]))) [5, 6, 7]) (.ret (.call 65 (.acons (.var 4) .anil) []))))
def b_come_to : CS := (.ret (.call 66 (.acons (.var 0) (.acons (.var 2) (.acons (.lit (.str "ask")) (.acons (.var 1) .anil)))) []))
def b_met : CS := (.ret (.call 66 (.acons (.var 0) (.acons (.var 2) (.acons (.lit (.str "pass")) (.acons (.var 1) .anil)))) []))
def b_two_ways : CS := (.seq (.asg (.nm 3) (.dnew false false)) (.seq (.asg (.nm 4) (.bi (.list false) (.acons (.fld (.var 0) 10) .anil))) (.seq (.while (.cmp .ne (.var 4) (.lst true .anil)) (.seq (.asg (.nm 5) (.bm .pop (.var 4) (.acons (.lit (.int 0)) .anil))) (.seq (.clr [6]) (.seq (.for .seq (.acons (.fld (.var 5) 8) .anil) (.nm 6) (.sidx (.var 3) (.fld (.var 6) 0) (.lit (.bl true))) [6]) (.ite (.cmp .eq (.fld (.var 5) 0) (.var 1)) (.asg (.nm 4) (.lst false .anil)) .skip)))) [5, 6]) (.seq (.asg (.nm 7) (.call 49 (.acons (.var 0) (.acons (.var 2) .anil)) [.non])) (.seq (.for .seq (.acons (.call 62 (.acons (.var 7) .anil) []) .anil) (.nm 8) (.seq (.ite (.cmp .isin (.var 1) (.ix (.var 8) (.lit (.int 4)))) (.seq (.asg (.nm 9) (.bi .len (.acons (.lc true .seq (.acons (.ix (.var 8) (.lit (.int 3))) .anil) (.nm 10) (.cmp .isin (.ix (.var 10) (.lit (.int 0))) (.var 3)) (.var 10) [10]) .anil))) (.ret (.tup (.acons (.lit (.str "row")) (.acons (.call 64 (.acons (.var 0) (.acons (.var 8) (.acons (.var 9) (.acons (.dnew true true) .anil)))) []) .anil))))) .skip) (.clr [9])) [8, 9]) (.ret (.call 65 (.acons (.var 7) .anil) [])))))))
def b_counted_in : CS := (.seq (.asg (.nm 2) (.dnew true false)) (.seq (.for .seq (.acons (.var 1) .anil) (.tp (.cons (.nm 3) (.cons (.nm 4) (.cons (.nm 5) .nil)))) (.sidx (.var 2) (.tup (.acons (.var 3) (.acons (.var 4) .anil))) (.var 5)) [3, 4, 5]) (.seq (.asg (.nm 6) (.call 63 (.acons (.var 0) .anil) [])) (.seq (.asg (.nm 7) (.dnew true false)) (.seq (.for .seq (.acons (.call 61 (.acons (.var 0) (.acons (.var 2) .anil)) []) .anil) (.nm 8) (.seq (.ite (.cmp .eq (.ix (.var 8) (.lit (.int 0))) (.lit (.str "ask"))) (.seq (.asg (.nm 9) (.lit (.int 0))) (.seq (.ite (.cmp .isnt (.ix (.var 6) (.ix (.var 8) (.lit (.int 1)))) (.lit .non)) (.asg (.nm 9) (.bm .index (.bi (.list true) (.acons (.ix (.var 7) (.tup (.acons (.ix (.var 6) (.ix (.var 8) (.lit (.int 1)))) (.acons (.lit (.int 0)) .anil)))) .anil)) (.acons (.ix (.var 8) (.lit (.int 2))) .anil))) .skip) (.sidx (.var 7) (.tup (.acons (.ix (.var 8) (.lit (.int 1))) (.acons (.var 9) .anil))) (.ix (.var 8) (.lit (.int 3)))))) .skip) (.clr [9])) [8, 9]) (.seq (.frz 7) (.ret (.var 7))))))))
def b_ending : CS := (.seq (.asg (.nm 3) (.call 21 (.acons (.var 0) .anil) [])) (.seq (.asg (.nm 4) (.call 70 (.acons (.var 0) (.acons (.var 1) .anil)) [])) (.seq (.asg (.nm 5) (.dnew true false)) (.seq (.for .items (.acons (.var 4) .anil) (.tp (.cons (.nm 6) (.cons (.nm 7) .nil))) (.seq (.asg (.nm 8) (.meth (.ix (.var 3) (.ix (.var 6) (.lit (.int 0)))) 17 (.acons (.var 7) .anil))) (.sidx (.var 5) (.var 6) (.tup (.acons (.var 8) (.acons (.var 8) .anil))))) [6, 7, 8]) (.seq (.frz 5) (.seq (.asg (.nm 9) (.call 49 (.acons (.var 0) (.acons (.var 2) (.acons (.var 5) .anil))) [])) (.seq (.for .seq (.acons (.call 62 (.acons (.var 9) .anil) []) .anil) (.nm 10) (.ite (.and (.cmp .ne (.ix (.var 10) (.lit (.int 2))) (.lst true .anil)) (.cmp .eq (.ix (.ix (.var 10) (.lit (.int 2))) (.neg (.lit (.int 1)))) (.tup (.acons (.lit (.str "end")) .anil)))) (.ret (.tup (.acons (.lit (.str "row")) (.acons (.call 64 (.acons (.var 0) (.acons (.var 10) (.acons (.bi .len (.acons (.ix (.var 10) (.lit (.int 3))) .anil)) (.acons (.var 4) .anil)))) []) .anil)))) .skip) [10]) (.ret (.call 65 (.acons (.var 9) .anil) [])))))))))
def b_L_cell : CS := (.seq (.ite (.cmp .lt (.var 1) (.bi .len (.acons (.var 0) .anil))) (.ret (.bin .mod (.ix (.var 0) (.var 1)) (.bin .pow (.lit (.int 10)) (.lit (.int 40))))) .skip) (.ret (.lit (.int 0))))
def b_L_name : CS := (.seq (.asg (.nm 2) (.lit (.str "abcdefghijklmnopqrstuvwxyz"))) (.seq (.asg (.nm 3) (.call 72 (.acons (.var 0) (.acons (.lit (.int 0)) .anil)) [])) (.seq (.asg (.nm 4) (.bin .add (.ix (.var 2) (.bin .mod (.bin .add (.bin .mul (.var 1) (.lit (.int 5))) (.bin .fdiv (.var 3) (.lit (.int 20)))) (.lit (.int 26)))) (.ix (.var 2) (.var 1)))) (.ret (.bin .add (.bin .add (.bin .mul (.lit (.str "x")) (.bin .mod (.var 3) (.lit (.int 4)))) (.var 4)) (.bin .mul (.lit (.str "y")) (.bin .mod (.bin .fdiv (.var 3) (.lit (.int 4))) (.lit (.int 5)))))))))
def b_L_paper : CS := (.seq (.asg (.nm 4) (.make 11 true (.acons (.ix (.var 0) (.lit (.int 3))) (.acons (.lit (.str "=")) (.acons (.var 3) .anil))) [])) (.seq (.asg (.nm 5) (.lst false (.acons (.make 6 true (.acons (.ix (.var 0) (.lit (.int 0))) (.acons (.make 2 true (.acons (.var 1) (.acons (.bin .sub (.bin .add (.var 1) (.var 2)) (.lit (.int 1))) .anil)) []) .anil)) [.non]) (.acons (.make 6 true (.acons (.ix (.var 0) (.lit (.int 1))) (.acons (.make 1 true .anil []) (.acons (.var 4) .anil))) []) .anil)))) (.seq (.exp (.bm .append (.var 5) (.acons (.make 7 true (.acons (.ix (.var 0) (.lit (.int 2))) (.acons (.var 4) .anil)) [(.bl true)]) .anil))) (.seq (.frz 5) (.seq (.asg (.nm 6) (.make 8 true (.acons (.lit (.str "only")) (.acons (.lit .non) (.acons (.var 5) (.acons (.lst true (.acons (.tup (.acons (.lit (.str "end")) (.acons (.var 4) .anil))) (.acons (.tup (.acons (.lit (.str "end")) (.acons (.lit .non) .anil))) .anil))) .anil)))) [])) (.ret (.make 9 true (.acons (.lit (.str "paper")) (.acons (.lst true (.acons (.var 6) .anil)) (.acons (.lst true (.acons (.tup (.acons (.ix (.var 0) (.lit (.int 3))) (.acons (.lst true (.acons (.tup (.acons (.lit (.int 1)) (.acons (.ix (.var 0) (.lit (.int 0))) .anil))) .anil)) .anil))) .anil)) .anil))) [])))))))
def b_L_unknown : CS := (.seq (.ite (.or (.not (.isi (.var 0) [.tuple])) (.or (.cmp .ne (.bi .len (.acons (.var 0) .anil)) (.lit (.int 2))) (.cmp .ne (.ix (.var 0) (.lit (.int 0))) (.lit (.str "unknown"))))) (.ret (.lit (.bl false))) .skip) (.seq (.asg (.nm 2) (.lc true .seq (.acons (.ix (.var 0) (.lit (.int 1))) .anil) (.nm 4) (.cmp .eq (.ix (.var 4) (.lit (.int 0))) (.lit (.str "split"))) (.var 4) [4])) (.seq (.asg (.nm 3) (.lc true .seq (.acons (.ix (.var 0) (.lit (.int 1))) .anil) (.nm 4) (.and (.cmp .eq (.ix (.var 4) (.lit (.int 0))) (.lit (.str "leaf"))) (.cmp .is (.ix (.var 4) (.lit (.int 1))) (.lit (.bl false)))) (.var 4) [4])) (.ret (.and (.cmp .eq (.bi .len (.acons (.ix (.var 0) (.lit (.int 1))) .anil)) (.bin .add (.bin .mul (.lit (.int 2)) (.var 1)) (.lit (.int 1)))) (.and (.cmp .eq (.bi .len (.acons (.var 2) .anil)) (.var 1)) (.cmp .eq (.bi .len (.acons (.var 3) .anil)) (.lit (.int 1)))))))))
def b_L_right : CS := (.seq (.ite (.var 3) (.ret (.and (.isi (.var 0) [.tuple]) (.cmp .eq (.var 0) (.tup (.acons (.lit (.str "row")) (.acons (.var 1) .anil)))))) .skip) (.ret (.call 75 (.acons (.var 0) (.acons (.var 2) .anil)) [])))
def b_law : CS := (.seq (.asg (.nm 1) (.lc true .rng1 (.acons (.lit (.int 4)) .anil) (.nm 13) (.lit (.bl true)) (.call 73 (.acons (.var 0) (.acons (.var 13) .anil)) []) [13])) (.seq (.asg (.nm 2) (.bin .sub (.bin .mod (.bin .mul (.call 72 (.acons (.var 0) (.acons (.lit (.int 1)) .anil)) []) (.lit (.int 48271))) (.bin .mul (.lit (.int 2)) (.bin .pow (.lit (.int 10)) (.lit (.int 18))))) (.bin .pow (.lit (.int 10)) (.lit (.int 18))))) (.seq (.asg (.nm 3) (.bin .add (.lit (.int 62)) (.bin .mod (.call 72 (.acons (.var 0) (.acons (.lit (.int 2)) .anil)) []) (.lit (.int 5))))) (.seq (.asg (.nm 4) (.bin .shl (.lit (.int 1)) (.var 3))) (.seq (.asg (.nm 5) (.bin .add (.var 2) (.bin .mod (.bin .mul (.bin .mul (.call 72 (.acons (.var 0) (.acons (.lit (.int 3)) .anil)) []) (.lit (.int 982451653))) (.bin .pow (.lit (.int 10)) (.lit (.int 12)))) (.var 4)))) (.seq (.asg (.nm 6) (.call 74 (.acons (.var 1) (.acons (.var 2) (.acons (.var 4) (.acons (.var 5) .anil)))) [])) (.seq (.asg (.nm 7) (.lst true (.acons (.tup (.acons (.ix (.var 1) (.lit (.int 0))) (.acons (.lit (.str "")) (.acons (.var 5) .anil)))) .anil))) (.seq (.asg (.nm 8) (.bin .add (.var 7) (.lst true (.acons (.tup (.acons (.ix (.var 1) (.lit (.int 1))) (.acons (.lit (.str "")) (.acons (.lit (.bl false)) .anil)))) .anil)))) (.seq (.ite (.not (.call 76 (.acons (.call 67 (.acons (.var 6) (.acons (.ix (.var 1) (.lit (.int 1))) .anil)) [(.int 64)]) (.acons (.var 7) (.acons (.lit (.int 64)) (.acons (.cmp .le (.var 3) (.lit (.int 64))) .anil)))) [])) (.ret (.lit (.bl false))) .skip) (.seq (.asg (.nm 9) (.lst true (.acons (.call 68 (.acons (.var 6) (.acons (.ix (.var 1) (.lit (.int 2))) .anil)) [(.int 64)]) (.acons (.call 69 (.acons (.var 6) (.acons (.lit (.str "only")) .anil)) [(.int 64)]) (.acons (.call 71 (.acons (.var 6) (.acons (.lst true .anil) .anil)) [(.int 64)]) .anil))))) (.seq (.for .seq (.acons (.var 9) .anil) (.nm 10) (.ite (.not (.call 76 (.acons (.var 10) (.acons (.var 8) (.acons (.lit (.int 64)) (.acons (.cmp .le (.var 3) (.lit (.int 64))) .anil)))) [])) (.ret (.lit (.bl false))) .skip) [10]) (.seq (.ite (.cmp .ne (.bi .len (.acons (.call 49 (.acons (.var 6) .anil) [(.int 64), .non]) .anil)) (.bin .add (.bin .mul (.lit (.int 2)) (.bi .min (.acons (.lit (.int 64)) (.acons (.var 3) .anil)))) (.lit (.int 1)))) (.ret (.lit (.bl false))) .skip) (.seq (.asg (.nm 11) (.bin .add (.lit (.int 63)) (.bin .mod (.call 72 (.acons (.var 0) (.acons (.lit (.int 4)) .anil)) []) (.lit (.int 2))))) (.seq (.ite (.not (.call 76 (.acons (.call 71 (.acons (.var 6) (.acons (.lst true .anil) (.acons (.var 11) .anil))) []) (.acons (.var 8) (.acons (.var 11) (.acons (.cmp .le (.var 3) (.var 11)) .anil)))) [])) (.ret (.lit (.bl false))) .skip) (.seq (.asg (.nm 12) (.bin .add (.var 2) (.bin .mod (.bin .add (.bin .add (.bin .sub (.var 5) (.var 2)) (.lit (.int 1))) (.bin .mod (.call 72 (.acons (.var 0) (.acons (.lit (.int 5)) .anil)) []) (.bin .sub (.var 4) (.lit (.int 1))))) (.var 4)))) (.seq (.asg (.nm 10) (.call 71 (.acons (.var 6) (.acons (.lst true (.acons (.tup (.acons (.ix (.var 1) (.lit (.int 0))) (.acons (.lit (.str "")) (.acons (.var 12) .anil)))) .anil)) .anil)) [(.int 64)])) (.seq (.ite (.or (.not (.isi (.var 10) [.tuple])) (.or (.cmp .ne (.ix (.var 10) (.lit (.int 0))) (.lit (.str "shut"))) (.cmp .ne (.bi .len (.acons (.ix (.var 10) (.lit (.int 1))) .anil)) (.lit (.int 1))))) (.ret (.lit (.bl false))) .skip) (.ret (.cmp .eq (.call 71 (.acons (.var 6) (.acons (.var 7) .anil)) [(.int 64)]) (.tup (.acons (.lit (.str "row")) (.acons (.var 8) .anil))))))))))))))))))))))

abbrev f_WrongKind___init__ : Nat := 0
abbrev f_is_whole : Nat := 1
abbrev f_is_name : Nat := 2
abbrev f_Kind___init__ : Nat := 3
abbrev f_Kind_fits : Nat := 4
abbrev f_YesNo___init__ : Nat := 5
abbrev f_YesNo_fits : Nat := 6
abbrev f_YesNo_rank : Nat := 7
abbrev f_YesNo_sample : Nat := 8
abbrev f_Whole_fits : Nat := 9
abbrev f_Whole_rank : Nat := 10
abbrev f_Whole_sample : Nat := 11
abbrev f_Names___init__ : Nat := 12
abbrev f_Names_fits : Nat := 13
abbrev f_Names_rank : Nat := 14
abbrev f_Names_sample : Nat := 15
abbrev f_Row___init__ : Nat := 16
abbrev f_Ask___init__ : Nat := 17
abbrev f_Check___init__ : Nat := 18
abbrev f_Sheet___init__ : Nat := 19
abbrev f_Paper___init__ : Nat := 20
abbrev f_kinds_of : Nat := 21
abbrev f_put_in : Nat := 22
abbrev f_put_together : Nat := 23
abbrev f_compared : Nat := 24
abbrev f_spanned : Nat := 25
abbrev f_Saying_atoms : Nat := 26
abbrev f_Saying_first_open : Nat := 27
abbrev f_Compare___init__ : Nat := 28
abbrev f_Compare_settled : Nat := 29
abbrev f_Compare_holds : Nat := 30
abbrev f_Compare_sure : Nat := 31
abbrev f_span_in : Nat := 32
abbrev f_cut_for : Nat := 33
abbrev f_Boxed___init__ : Nat := 34
abbrev f_Boxed_key : Nat := 35
abbrev f_Boxed_sum_span : Nat := 36
abbrev f_Boxed_look : Nat := 37
abbrev f_Boxed_part_at : Nat := 38
abbrev f_Boxed_agreed : Nat := 39
abbrev f_Boxed_asked : Nat := 40
abbrev f_Boxed_checked : Nat := 41
abbrev f_Boxed_through : Nat := 42
abbrev f_Boxed_turns_of : Nat := 43
abbrev f_Boxed_way_out : Nat := 44
abbrev f_Boxed_sheet_done : Nat := 45
abbrev f_going_by : Nat := 46
abbrev f_parts_of_box : Nat := 47
abbrev f_ranges_of : Nat := 48
abbrev f_cover : Nat := 49
abbrev f_worth : Nat := 50
abbrev f_reckon : Nat := 51
abbrev f_total_of : Nat := 52
abbrev f_Walk___init__ : Nat := 53
abbrev f_Walk_look : Nat := 54
abbrev f_Walk_agreed : Nat := 55
abbrev f_Walk_asked : Nat := 56
abbrev f_Walk_checked : Nat := 57
abbrev f_Walk_through : Nat := 58
abbrev f_Walk_things : Nat := 59
abbrev f_Walk_way_out : Nat := 60
abbrev f_straight : Nat := 61
abbrev f_leaves_of : Nat := 62
abbrev f_eaches_of : Nat := 63
abbrev f_row_by : Nat := 64
abbrev f_none_comes : Nat := 65
abbrev f_first_row : Nat := 66
abbrev f_come_to : Nat := 67
abbrev f_met : Nat := 68
abbrev f_two_ways : Nat := 69
abbrev f_counted_in : Nat := 70
abbrev f_ending : Nat := 71
abbrev f_L_cell : Nat := 72
abbrev f_L_name : Nat := 73
abbrev f_L_paper : Nat := 74
abbrev f_L_unknown : Nat := 75
abbrev f_L_right : Nat := 76
abbrev f_law : Nat := 77
abbrev c_Kind : Nat := 0
abbrev c_YesNo : Nat := 1
abbrev c_Whole : Nat := 2
abbrev c_Money : Nat := 3
abbrev c_Names : Nat := 4
abbrev c_Row : Nat := 5
abbrev c_Ask : Nat := 6
abbrev c_Check : Nat := 7
abbrev c_Sheet : Nat := 8
abbrev c_Paper : Nat := 9
abbrev c_Saying : Nat := 10
abbrev c_Compare : Nat := 11
abbrev c_Boxed : Nat := 12
abbrev c_Walk : Nat := 13
abbrev c_AskError : Nat := 14
abbrev c_NoNumber : Nat := 15
abbrev c_NoAnswer : Nat := 16
abbrev c_WrongKind : Nat := 17
abbrev m_atoms : Nat := 0
abbrev m_sure : Nat := 1
abbrev m_sum_span : Nat := 2
abbrev m_key : Nat := 3
abbrev m_look : Nat := 4
abbrev m_settled : Nat := 5
abbrev m_part_at : Nat := 6
abbrev m_first_open : Nat := 7
abbrev m_agreed : Nat := 8
abbrev m_checked : Nat := 9
abbrev m_asked : Nat := 10
abbrev m_turns_of : Nat := 11
abbrev m_through : Nat := 12
abbrev m_way_out : Nat := 13
abbrev m_sheet_done : Nat := 14
abbrev m_holds : Nat := 15
abbrev m_fits : Nat := 16
abbrev m_rank : Nat := 17
abbrev m_things : Nat := 18
abbrev m_sample : Nat := 19
abbrev a_name : Nat := 0
abbrev a_low : Nat := 1
abbrev a_high : Nat := 2
abbrev a_kind : Nat := 3
abbrev a_when : Nat := 4
abbrev a_test : Nat := 5
abbrev a_firm : Nat := 6
abbrev a_each : Nat := 7
abbrev a_rows : Nat := 8
abbrev a_ways : Nat := 9
abbrev a_sheets : Nat := 10
abbrev a_totals : Nat := 11
abbrev a_how : Nat := 12
abbrev a_number : Nat := 13
abbrev a_place : Nat := 14
abbrev a_paper : Nat := 15
abbrev a_box : Nat := 16
abbrev a_kinds : Nat := 17
abbrev a_added : Nat := 18
abbrev a_again : Nat := 19
abbrev a_log : Nat := 20
abbrev a_spans : Nat := 21
abbrev a_places : Nat := 22
abbrev a_doubles : Nat := 23
abbrev a_parted : Nat := 24
abbrev a_book : Nat := 25
abbrev a_ranks : Nat := 26
abbrev a_tallied : Nat := 27
def fns : List FnT := [⟨2, 2, b_WrongKind___init__⟩,
  ⟨1, 1, b_is_whole⟩,
  ⟨1, 2, b_is_name⟩,
  ⟨3, 3, b_Kind___init__⟩,
  ⟨2, 2, b_Kind_fits⟩,
  ⟨1, 1, b_YesNo___init__⟩,
  ⟨2, 2, b_YesNo_fits⟩,
  ⟨2, 2, b_YesNo_rank⟩,
  ⟨2, 2, b_YesNo_sample⟩,
  ⟨2, 2, b_Whole_fits⟩,
  ⟨2, 2, b_Whole_rank⟩,
  ⟨2, 2, b_Whole_sample⟩,
  ⟨2, 2, b_Names___init__⟩,
  ⟨2, 3, b_Names_fits⟩,
  ⟨2, 2, b_Names_rank⟩,
  ⟨2, 2, b_Names_sample⟩,
  ⟨2, 2, b_Row___init__⟩,
  ⟨4, 4, b_Ask___init__⟩,
  ⟨4, 4, b_Check___init__⟩,
  ⟨5, 5, b_Sheet___init__⟩,
  ⟨4, 4, b_Paper___init__⟩,
  ⟨1, 4, b_kinds_of⟩,
  ⟨3, 9, b_put_in⟩,
  ⟨2, 7, b_put_together⟩,
  ⟨3, 3, b_compared⟩,
  ⟨3, 7, b_spanned⟩,
  ⟨1, 1, b_Saying_atoms⟩,
  ⟨2, 3, b_Saying_first_open⟩,
  ⟨4, 4, b_Compare___init__⟩,
  ⟨2, 2, b_Compare_settled⟩,
  ⟨2, 3, b_Compare_holds⟩,
  ⟨2, 2, b_Compare_sure⟩,
  ⟨4, 5, b_span_in⟩,
  ⟨3, 5, b_cut_for⟩,
  ⟨3, 7, b_Boxed___init__⟩,
  ⟨3, 3, b_Boxed_key⟩,
  ⟨2, 10, b_Boxed_sum_span⟩,
  ⟨3, 3, b_Boxed_look⟩,
  ⟨3, 9, b_Boxed_part_at⟩,
  ⟨3, 4, b_Boxed_agreed⟩,
  ⟨3, 3, b_Boxed_asked⟩,
  ⟨4, 4, b_Boxed_checked⟩,
  ⟨3, 6, b_Boxed_through⟩,
  ⟨2, 4, b_Boxed_turns_of⟩,
  ⟨2, 6, b_Boxed_way_out⟩,
  ⟨2, 4, b_Boxed_sheet_done⟩,
  ⟨2, 6, b_going_by⟩,
  ⟨5, 9, b_parts_of_box⟩,
  ⟨3, 7, b_ranges_of⟩,
  ⟨3, 15, b_cover⟩,
  ⟨2, 5, b_worth⟩,
  ⟨4, 6, b_reckon⟩,
  ⟨3, 4, b_total_of⟩,
  ⟨3, 3, b_Walk___init__⟩,
  ⟨3, 4, b_Walk_look⟩,
  ⟨3, 3, b_Walk_agreed⟩,
  ⟨3, 5, b_Walk_asked⟩,
  ⟨3, 3, b_Walk_checked⟩,
  ⟨3, 4, b_Walk_through⟩,
  ⟨2, 2, b_Walk_things⟩,
  ⟨2, 4, b_Walk_way_out⟩,
  ⟨2, 6, b_straight⟩,
  ⟨1, 2, b_leaves_of⟩,
  ⟨1, 4, b_eaches_of⟩,
  ⟨4, 14, b_row_by⟩,
  ⟨1, 2, b_none_comes⟩,
  ⟨4, 8, b_first_row⟩,
  ⟨3, 3, b_come_to⟩,
  ⟨3, 3, b_met⟩,
  ⟨3, 11, b_two_ways⟩,
  ⟨2, 10, b_counted_in⟩,
  ⟨3, 11, b_ending⟩,
  ⟨2, 2, b_L_cell⟩,
  ⟨2, 5, b_L_name⟩,
  ⟨4, 7, b_L_paper⟩,
  ⟨2, 5, b_L_unknown⟩,
  ⟨4, 4, b_L_right⟩,
  ⟨1, 14, b_law⟩,
  ⟨3, 3, b_lam0⟩,
  ⟨3, 3, b_lam1⟩,
  ⟨2, 2, b_lam2⟩,
  ⟨3, 3, b_lam3⟩]
def consts : List D := [(.str "abcdefghijklmnopqrstuvwxyz"), (.str "0123456789"), (.wtup [(.str "and"), (.str "each"), (.str "end"), (.str "is"), (.str "not"), (.str "or"), (.str "unless"), (.str "when")]), (.int 12), (.wtup [(.str "a"), (.str "b"), (.str "c"), (.str "d"), (.str "e"), (.str "f")])]
def mth : List (List (Nat × Nat)) := [[(16, 4)], [(16, 6), (17, 7), (19, 8)], [(16, 9), (17, 10), (19, 11)], [(16, 9), (17, 10), (19, 11)], [(16, 13), (17, 14), (19, 15)], [], [], [], [], [], [(0, 26), (7, 27)], [(0, 26), (1, 31), (5, 29), (7, 27), (15, 30)], [(2, 36), (3, 35), (4, 37), (6, 38), (8, 39), (9, 41), (10, 40), (11, 43), (12, 42), (13, 44), (14, 45)], [(4, 54), (8, 55), (9, 57), (10, 56), (12, 58), (13, 60), (18, 59)], [], [], [], []]
def init : List (Option Nat) := [some 3, some 5, some 3, some 3, some 12, some 16, some 17, some 18, some 19, some 20, none, some 28, some 34, some 53, none, none, none, none]
def sub : List (List Nat) := [[0], [1, 0], [2, 0], [3, 2, 0], [4, 0], [5], [6, 5], [7, 5], [8], [9], [10], [11, 10], [12], [13]]
def fok : List (List Nat) := [[1, 2], [1, 2], [1, 2], [1, 2], [1, 2], [0], [3, 4, 0], [5, 6, 0], [0, 7, 8, 9], [0, 10, 11], [], [0, 12, 13], [15, 16, 17, 18, 19, 20, 21, 22, 23, 24], [17, 11, 25, 20, 26, 27], [], [], [], []]
def P : Prog := ⟨fns, consts, mth, init, sub, fok, 100000⟩
@[simp] theorem fk_0_1 : fokB P.fok 0 1 = true := (by decide)
@[simp] theorem fk_0_2 : fokB P.fok 0 2 = true := (by decide)
@[simp] theorem fk_1_1 : fokB P.fok 1 1 = true := (by decide)
@[simp] theorem fk_1_2 : fokB P.fok 1 2 = true := (by decide)
@[simp] theorem fk_2_1 : fokB P.fok 2 1 = true := (by decide)
@[simp] theorem fk_2_2 : fokB P.fok 2 2 = true := (by decide)
@[simp] theorem fk_3_1 : fokB P.fok 3 1 = true := (by decide)
@[simp] theorem fk_3_2 : fokB P.fok 3 2 = true := (by decide)
@[simp] theorem fk_4_1 : fokB P.fok 4 1 = true := (by decide)
@[simp] theorem fk_4_2 : fokB P.fok 4 2 = true := (by decide)
@[simp] theorem fk_5_0 : fokB P.fok 5 0 = true := (by decide)
@[simp] theorem fk_6_3 : fokB P.fok 6 3 = true := (by decide)
@[simp] theorem fk_6_4 : fokB P.fok 6 4 = true := (by decide)
@[simp] theorem fk_6_0 : fokB P.fok 6 0 = true := (by decide)
@[simp] theorem fk_7_5 : fokB P.fok 7 5 = true := (by decide)
@[simp] theorem fk_7_6 : fokB P.fok 7 6 = true := (by decide)
@[simp] theorem fk_7_0 : fokB P.fok 7 0 = true := (by decide)
@[simp] theorem fk_8_0 : fokB P.fok 8 0 = true := (by decide)
@[simp] theorem fk_8_7 : fokB P.fok 8 7 = true := (by decide)
@[simp] theorem fk_8_8 : fokB P.fok 8 8 = true := (by decide)
@[simp] theorem fk_8_9 : fokB P.fok 8 9 = true := (by decide)
@[simp] theorem fk_9_0 : fokB P.fok 9 0 = true := (by decide)
@[simp] theorem fk_9_10 : fokB P.fok 9 10 = true := (by decide)
@[simp] theorem fk_9_11 : fokB P.fok 9 11 = true := (by decide)
@[simp] theorem fk_11_0 : fokB P.fok 11 0 = true := (by decide)
@[simp] theorem fk_11_12 : fokB P.fok 11 12 = true := (by decide)
@[simp] theorem fk_11_13 : fokB P.fok 11 13 = true := (by decide)
@[simp] theorem fk_12_15 : fokB P.fok 12 15 = true := (by decide)
@[simp] theorem fk_12_16 : fokB P.fok 12 16 = true := (by decide)
@[simp] theorem fk_12_17 : fokB P.fok 12 17 = true := (by decide)
@[simp] theorem fk_12_18 : fokB P.fok 12 18 = true := (by decide)
@[simp] theorem fk_12_19 : fokB P.fok 12 19 = true := (by decide)
@[simp] theorem fk_12_20 : fokB P.fok 12 20 = true := (by decide)
@[simp] theorem fk_12_21 : fokB P.fok 12 21 = true := (by decide)
@[simp] theorem fk_12_22 : fokB P.fok 12 22 = true := (by decide)
@[simp] theorem fk_12_23 : fokB P.fok 12 23 = true := (by decide)
@[simp] theorem fk_12_24 : fokB P.fok 12 24 = true := (by decide)
@[simp] theorem fk_13_17 : fokB P.fok 13 17 = true := (by decide)
@[simp] theorem fk_13_11 : fokB P.fok 13 11 = true := (by decide)
@[simp] theorem fk_13_25 : fokB P.fok 13 25 = true := (by decide)
@[simp] theorem fk_13_20 : fokB P.fok 13 20 = true := (by decide)
@[simp] theorem fk_13_26 : fokB P.fok 13 26 = true := (by decide)
@[simp] theorem fk_13_27 : fokB P.fok 13 27 = true := (by decide)
@[simp] theorem mt_0_16 : mlk P 0 16 = some 4 := (rfl)
@[simp] theorem mt_1_16 : mlk P 1 16 = some 6 := (rfl)
@[simp] theorem mt_1_17 : mlk P 1 17 = some 7 := (rfl)
@[simp] theorem mt_1_19 : mlk P 1 19 = some 8 := (rfl)
@[simp] theorem mt_2_16 : mlk P 2 16 = some 9 := (rfl)
@[simp] theorem mt_2_17 : mlk P 2 17 = some 10 := (rfl)
@[simp] theorem mt_2_19 : mlk P 2 19 = some 11 := (rfl)
@[simp] theorem mt_3_16 : mlk P 3 16 = some 9 := (rfl)
@[simp] theorem mt_3_17 : mlk P 3 17 = some 10 := (rfl)
@[simp] theorem mt_3_19 : mlk P 3 19 = some 11 := (rfl)
@[simp] theorem mt_4_16 : mlk P 4 16 = some 13 := (rfl)
@[simp] theorem mt_4_17 : mlk P 4 17 = some 14 := (rfl)
@[simp] theorem mt_4_19 : mlk P 4 19 = some 15 := (rfl)
@[simp] theorem mt_10_0 : mlk P 10 0 = some 26 := (rfl)
@[simp] theorem mt_10_7 : mlk P 10 7 = some 27 := (rfl)
@[simp] theorem mt_11_0 : mlk P 11 0 = some 26 := (rfl)
@[simp] theorem mt_11_1 : mlk P 11 1 = some 31 := (rfl)
@[simp] theorem mt_11_5 : mlk P 11 5 = some 29 := (rfl)
@[simp] theorem mt_11_7 : mlk P 11 7 = some 27 := (rfl)
@[simp] theorem mt_11_15 : mlk P 11 15 = some 30 := (rfl)
@[simp] theorem mt_12_2 : mlk P 12 2 = some 36 := (rfl)
@[simp] theorem mt_12_3 : mlk P 12 3 = some 35 := (rfl)
@[simp] theorem mt_12_4 : mlk P 12 4 = some 37 := (rfl)
@[simp] theorem mt_12_6 : mlk P 12 6 = some 38 := (rfl)
@[simp] theorem mt_12_8 : mlk P 12 8 = some 39 := (rfl)
@[simp] theorem mt_12_9 : mlk P 12 9 = some 41 := (rfl)
@[simp] theorem mt_12_10 : mlk P 12 10 = some 40 := (rfl)
@[simp] theorem mt_12_11 : mlk P 12 11 = some 43 := (rfl)
@[simp] theorem mt_12_12 : mlk P 12 12 = some 42 := (rfl)
@[simp] theorem mt_12_13 : mlk P 12 13 = some 44 := (rfl)
@[simp] theorem mt_12_14 : mlk P 12 14 = some 45 := (rfl)
@[simp] theorem mt_13_4 : mlk P 13 4 = some 54 := (rfl)
@[simp] theorem mt_13_8 : mlk P 13 8 = some 55 := (rfl)
@[simp] theorem mt_13_9 : mlk P 13 9 = some 57 := (rfl)
@[simp] theorem mt_13_10 : mlk P 13 10 = some 56 := (rfl)
@[simp] theorem mt_13_12 : mlk P 13 12 = some 58 := (rfl)
@[simp] theorem mt_13_13 : mlk P 13 13 = some 60 := (rfl)
@[simp] theorem mt_13_18 : mlk P 13 18 = some 59 := (rfl)
@[simp] theorem in_0 : P.init.getD 0 none = some 3 := (rfl)
@[simp] theorem in_1 : P.init.getD 1 none = some 5 := (rfl)
@[simp] theorem in_2 : P.init.getD 2 none = some 3 := (rfl)
@[simp] theorem in_3 : P.init.getD 3 none = some 3 := (rfl)
@[simp] theorem in_4 : P.init.getD 4 none = some 12 := (rfl)
@[simp] theorem in_5 : P.init.getD 5 none = some 16 := (rfl)
@[simp] theorem in_6 : P.init.getD 6 none = some 17 := (rfl)
@[simp] theorem in_7 : P.init.getD 7 none = some 18 := (rfl)
@[simp] theorem in_8 : P.init.getD 8 none = some 19 := (rfl)
@[simp] theorem in_9 : P.init.getD 9 none = some 20 := (rfl)
@[simp] theorem in_11 : P.init.getD 11 none = some 28 := (rfl)
@[simp] theorem in_12 : P.init.getD 12 none = some 34 := (rfl)
@[simp] theorem in_13 : P.init.getD 13 none = some 53 := (rfl)
@[simp] theorem co_0 : P.consts[0]? = some (.str "abcdefghijklmnopqrstuvwxyz") := (rfl)
@[simp] theorem co_1 : P.consts[1]? = some (.str "0123456789") := (rfl)
@[simp] theorem co_2 : P.consts[2]? = some (.wtup [(.str "and"), (.str "each"), (.str "end"), (.str "is"), (.str "not"), (.str "or"), (.str "unless"), (.str "when")]) := (rfl)
@[simp] theorem co_3 : P.consts[3]? = some (.int 12) := (rfl)
@[simp] theorem co_4 : P.consts[4]? = some (.wtup [(.str "a"), (.str "b"), (.str "c"), (.str "d"), (.str "e"), (.str "f")]) := (rfl)
end Tx

set_option linter.all false
set_option maxRecDepth 100000
namespace Co
open PySem L2
section
variable {body : Env → Store → RS} {tg : TGT} {clr : List Nat} {env env1 env2 : Env} {μ μ2 : Store} {j : Nat} {d d2 : D}
theorem forS_c1 (h : μ[j]? = some (.lst [d])) (h1 : asgT tg d env = some env1) (h2 : body env1 μ = .ok (.nx, env2) μ) : forS body tg .seq [.cell j] clr env μ = .ok (.nx, wipeE env2 clr) μ := by
  have hf := forS_fn (body := body) (tg := tg) (k := .seq) (ds := [.cell j]) (xs := [d]) (clr := clr) (env := env) (μ := μ) (fun i => if i = 0 then (env, μ) else (wipeE env2 clr, μ)) (it_cl _ _ h) rfl
    (fun i hi => by
      have : (if i = 0 then (env, μ) else (wipeE env2 clr, μ)).2 = μ := by split <;> rfl
      show stayB μ .seq [.cell j] [d] (if i = 0 then (env, μ) else (wipeE env2 clr, μ)).2 = true
      rw [this]
      exact stay_cl h h)
    (fun i hi => by
      have : i = 0 := by simpa using hi
      subst this
      exact ⟨env1, env2, μ, h1, h2, by rw [tEnd_len (by simp)]; simp⟩)
  exact hf
theorem forS_c1r (h : μ[j]? = some (.lst [d])) (h1 : asgT tg d env = some env1) (h2 : body env1 μ = .ok (.rt d2, env2) μ2) : forS body tg .seq [.cell j] clr env μ = .ok (.rt d2, env2) μ2 := by
  unfold forS
  rw [it_cl _ _ h]
  simp only
  unfold forL
  rw [if_pos (stay_cl h h), h1]
  simp only [h2]
end
end Co
namespace K67
open PySem L2 Co Tx
structure Pp where
  n0 : Str
  n1 : Str
  n2 : Str
  n3 : Str
  lo : Int
  hi : Int
  num : Int
structure Ok (p : Pp) : Prop where
  h01 : p.n0 ≠ p.n1
  h02 : p.n0 ≠ p.n2
  h03 : p.n0 ≠ p.n3
  h12 : p.n1 ≠ p.n2
  h13 : p.n1 ≠ p.n3
  h23 : p.n2 ≠ p.n3
  hl : p.lo ≤ p.num
  hh : p.num ≤ p.hi
  b1 : -(2 ^ 100) < p.lo
  b2 : p.hi < 2 ^ 100
variable (p : Pp)
def obW : D := .ins 2 [(1, .int p.lo), (2, .int p.hi)]
def obY : D := .ins 1 [(1, .int 0), (2, .int 1)]
def syD : D := .ins 11 [(0, .str p.n3), (12, .str "="), (13, .int p.num)]
def row0 : D := .ins 6 [(0, .str p.n0), (3, obW p), (4, .non)]
def row1 : D := .ins 6 [(0, .str p.n1), (3, obY), (4, syD p)]
def row2 : D := .ins 7 [(0, .str p.n2), (5, syD p), (6, .bl true)]
def wayL : List D := [.tup [.str "end", syD p], .tup [.str "end", .non]]
def shtD : D := .ins 8 [(0, .str "only"), (7, .non), (8, .lst [row0 p, row1 p, row2 p]), (9, .lst (wayL p))]
def totL : List D := [.tup [.str p.n3, .lst [.tup [.int 1, .str p.n0]]]]
def papD : D := .ins 9 [(0, .str "paper"), (10, .lst [shtD p]), (11, .lst (totL p))]
def KD : List (D × D) := [(.str p.n0, obW p), (.str p.n1, obY)]
def TD : List (D × D) := [(.str p.n3, .lst [.tup [.int 1, .str p.n0]])]
def AD : List (D × D) := [(.str p.n3, .tup [.lst [.tup [.int 1, .str p.n0]], .int 0])]
def AG : List (D × D) := [(.str p.n0, .bl false), (.str p.n1, .bl false), (.str p.n2, .bl false)]
def ED : List (D × D) := [(.str p.n0, .non), (.str p.n1, .non), (.str p.n2, .non)]
@[simp] theorem obW_lt (n : Nat) : (obW p).lt n = true := by simp [obW]
@[simp] theorem obY_lt (n : Nat) : obY.lt n = true := by simp [obY]
@[simp] theorem syD_lt (n : Nat) : (syD p).lt n = true := by simp [syD]
@[simp] theorem row0_lt (n : Nat) : (row0 p).lt n = true := by simp [row0]
@[simp] theorem row1_lt (n : Nat) : (row1 p).lt n = true := by simp [row1]
@[simp] theorem row2_lt (n : Nat) : (row2 p).lt n = true := by simp [row2]
@[simp] theorem wayL_lt (n : Nat) : D.lts n (wayL p) = true := by simp [wayL]
@[simp] theorem shtD_lt (n : Nat) : (shtD p).lt n = true := by simp [shtD]
@[simp] theorem totL_lt (n : Nat) : D.lts n (totL p) = true := by simp [totL]
@[simp] theorem papD_lt (n : Nat) : (papD p).lt n = true := by simp [papD]
@[simp] theorem KD_lt (n : Nat) : D.ltp n (KD p) = true := by simp [KD]
@[simp] theorem TD_lt (n : Nat) : D.ltp n (TD p) = true := by simp [TD]
@[simp] theorem AD_lt (n : Nat) : D.ltp n (AD p) = true := by simp [AD]
@[simp] theorem AG_lt (n : Nat) : D.ltp n (AG p) = true := by simp [AG]
@[simp] theorem ED_lt (n : Nat) : D.ltp n (ED p) = true := by simp [ED]
variable {p}
theorem kput1 (x d : D) : kput [] x d = [(x, d)] := rfl
theorem kput1b {x y : Str} (h : x ≠ y) (d e : D) : kput [(.str x, d)] (.str y) e = [(.str x, d), (.str y, e)] := by simp [kput, h]
theorem kput2b {x y z : Str} (h : x ≠ z) (h' : y ≠ z) (d e f : D) : kput [(.str x, d), (.str y, e)] (.str z) f = [(.str x, d), (.str y, e), (.str z, f)] := by simp [kput, h, h']
theorem kinds_run (h : Ok p) (n : Nat) (μ : Store) : run P (n + 1) 21 [papD p] μ = .ok (.dic false (KD p)) μ := by
  rw [run_def (F := ⟨1, 4, b_kinds_of⟩) rfl rfl]
  have i0 : ∀ (μ : Store) (fs : List (Nat × D)), isiS P.sub μ (.ins 6 fs) [.own 6] = some true := fun μ fs => rfl
  have i1 : ∀ (μ : Store) (fs : List (Nat × D)), isiS P.sub μ (.ins 7 fs) [.own 6] = some false := fun μ fs => rfl
  have s1 : sz 1 = true := by decide
  have s2 : sz 2 = true := by decide
  simp [b_kinds_of, papD, shtD, row0, row1, row2, fget, i0, i1, kput1, kput1b h.h01, s1, s2, KD]
theorem eaches_run (h : Ok p) (n : Nat) (μ : Store) : run P (n + 1) 63 [papD p] μ = .ok (.dic false (ED p)) μ := by
  rw [run_def (F := ⟨1, 4, b_eaches_of⟩) rfl rfl]
  have s1 : sz 1 = true := by decide
  have s2 : sz 2 = true := by decide
  have s3 : sz 3 = true := by decide
  simp [b_eaches_of, papD, shtD, row0, row1, row2, fget, kput1, kput1b h.h01, kput2b h.h02 h.h12, s1, s2, s3, ED]
/-! ### sums put together -/
theorem tot_dict (μ : Store) : biS μ (.dict true) [.lst (totL p)] = .ok (.dic false (TD p)) μ := rfl
def PI (p : Pp) : List (D × D) := [(.str p.n3, .tup [.dic false [(.str p.n0, .int 1)], .int 0])]
theorem put_in_run (h : Ok p) (n : Nat) (μ : Store) : run P (n + 1) 22 [.dic false (TD p), .str p.n3, .cell μ.length] (μ ++ [.dic false []]) = .ok .non (μ ++ [.dic false (PI p)]) := by
  rw [run_def (F := ⟨3, 9, b_put_in⟩) rfl rfl]
  have s1 : sz 1 = true := by decide
  have hn := h.h03
  have hn' : ¬ p.n3 = p.n0 := fun e => hn e.symm
  simp [b_put_in, TD, ixS_dic, kfind, hn', s1, kput1, PI]
  rw [leave_gen]
  simp
theorem put_tog_run (h : Ok p) (n : Nat) (μ : Store) : run P (n + 2) 23 [papD p, .str p.n3] μ = .ok (.tup [.lst [.tup [.int 1, .str p.n0]], .int 0]) μ := by
  rw [run_def (F := ⟨2, 7, b_put_together⟩) rfl rfl]
  have pr := put_in_run h n μ
  have td := tot_dict (p := p)
  have hf : ∀ μ : Store, fldS P.fok μ (insOf μ (papD p)) 11 = .ok (.lst (totL p)) μ := fun μ => by simp [papD, fget]
  have lt : ∀ n, D.ltp n (TD p) = true := fun n => by simp
  have wk : ∀ (μ : Store) (t : Bool) (kvs : List (D × D)), walkedC μ .items [.dic t kvs] = none := fun _ _ _ => rfl
  have lc : ∀ (call : Nat → List D → Store → RD) (e0 e1 e2 e3 e4 e5 e6 : Option D) (μ : Store), lcS (evE P call (.cmp .ne (.var 6) (.lit (.int 0)))) (evE P call (.tup (.acons (.var 6) (.acons (.var 5) .anil)))) (.tp (.cons (.nm 5) (.cons (.nm 6) .nil))) [5, 6] .items [.dic false [(.str p.n0, .int 1)]] true [e0, e1, e2, e3, e4, e5, e6] μ = .ok (.lst [.tup [.int 1, .str p.n0]]) μ := fun call e0 e1 e2 e3 e4 e5 e6 μ => by
    exact lcS_map (xs := [.tup [.str p.n0, .int 1]]) (fun _ => .tup [.int 1, .str p.n0]) rfl (fun ys => by simp [stayB, itemsOf, tagOf, Co.dicOf]) (by simp)
      (fun x hx => by
        rw [List.mem_singleton] at hx
        subst hx
        exact ⟨[e0, e1, e2, e3, e4, some (.str p.n0), some (.int 1)], by simp [wipeE], fun ys => ⟨by simp, by simp⟩⟩) (by simp)
  simp only [PI] at pr
  simp [b_put_together, hf, td, pr, kfind, ixS_dic, wk, lc]
end K67

set_option linter.all false
set_option maxRecDepth 100000
namespace K67
open PySem L2 Co Tx
variable {p : Pp}
/-! ### comparing -/
theorem compared_run (n : Nat) (a b : Int) (μ : Store) : run P (n + 1) 24 [.str "=", .int a, .int b] μ = .ok (.bl (decide (a = b))) μ := by
  rw [run_def (F := ⟨3, 3, b_compared⟩) rfl rfl]
  simp [b_compared, show ¬ (("=" : Str) = "<") by decide +kernel]
def o3 : Option Bool → D
  | some b => .bl b
  | none => .non
@[simp] theorem o3_lt (n : Nat) (o : Option Bool) : (o3 o).lt n = true := by cases o <;> rfl
/-- the atom by a span -/
def kw (num : Int) (s : Int × Int) : Option Bool := if s.1 = num ∧ s.2 = num then some true else if s.1 ≤ num ∧ num ≤ s.2 then none else some false
theorem spanned_run (n : Nat) (s : Int × Int) (num : Int) (hs : s.1 ≤ s.2) (μ : Store) : run P (n + 2) 25 [.tup [.int s.1, .int s.2], .str "=", .int num] μ = .ok (o3 (kw num s)) μ := by
  obtain ⟨lo, hi⟩ := s
  rw [run_def (F := ⟨3, 7, b_spanned⟩) rfl rfl]
  unfold kw
  simp only at hs ⊢
  by_cases h1 : lo = num
  · by_cases h2 : hi = num
    · simp [b_spanned, compared_run, h1, h2, o3]
    · have h3 : num ≤ hi := by omega
      simp [b_spanned, compared_run, h1, h2, h3, o3]
  · by_cases h2 : hi = num
    · have h3 : lo ≤ num := by omega
      simp [b_spanned, compared_run, h1, h2, h3, o3]
    · by_cases h3 : lo < num
      · have h5 : lo ≤ num := by omega
        by_cases h4 : num < hi
        · have h6 : num ≤ hi := by omega
          simp [b_spanned, compared_run, h1, h2, h3, h4, h5, h6, o3]
        · have h6 : ¬ num ≤ hi := by omega
          simp [b_spanned, compared_run, h1, h2, h3, h4, h5, h6, o3]
      · have h5 : ¬ lo ≤ num := by omega
        simp [b_spanned, compared_run, h1, h2, h3, h5, o3]
theorem cm_make (n : Nat) (x : Str) (q : Int) (μ : Store) : makeS P (run P (n + 1)) 11 true [.str x, .str "=", .int q] μ = .ok (.ins 11 [(0, .str x), (12, .str "="), (13, .int q)]) μ := by
  refine make_frz P μ _ (in_11) ?_ (by simp)
  rw [run_def (F := ⟨4, 4, b_Compare___init__⟩) rfl rfl]
  simp [b_Compare___init__, fput]
theorem set_run (h : Ok p) (n : Nat) (μ : Store) : run P (n + 2) 29 [syD p, .dic false (KD p)] μ = .ok (syD p) μ := by
  rw [run_def (F := ⟨2, 2, b_Compare_settled⟩) rfl rfl]
  have h1 := h.h03
  have h2 := h.h13
  simp [b_Compare_settled, syD, KD, fget, kfind, h1, h2, cm_make]
/-! ### boxes -/
def boxD (x : Str) : Option (Int × Int) → D
  | none => .dic true []
  | some s => .dic true [(.tup [.str x, .int 0], .tup [.int s.1, .int s.2])]
@[simp] theorem boxD_lt (n : Nat) (x : Str) (o : Option (Int × Int)) : (boxD x o).lt n = true := by cases o <;> simp [boxD]
def spO (p : Pp) (o : Option (Int × Int)) : Int × Int := o.getD (p.lo, p.hi)
def spD (s : Int × Int) : D := .tup [.int s.1, .int s.2]
theorem span0_run (h : Ok p) (n : Nat) (o : Option (Int × Int)) (μ : Store) : run P (n + 1) 32 [.dic false (KD p), boxD p.n0 o, .str p.n0, .int 0] μ = .ok (spD (spO p o)) μ := by
  rw [run_def (F := ⟨4, 5, b_span_in⟩) rfl rfl]
  have kf : kfind (KD p) (.str p.n0) = some (obW p) := by simp [KD, kfind]
  cases o with
  | none => simp [b_span_in, ixS_dic, kf, obW, fget, boxD, spO, spD]
  | some s => simp [b_span_in, ixS_dic, kf, obW, fget, boxD, spO, spD, kfind]
theorem span1_run (h : Ok p) (n : Nat) (o : Option (Int × Int)) (μ : Store) : run P (n + 1) 32 [.dic false (KD p), boxD p.n0 o, .str p.n1, .int 0] μ = .ok (spD (0, 1)) μ := by
  rw [run_def (F := ⟨4, 5, b_span_in⟩) rfl rfl]
  have kf : kfind (KD p) (.str p.n1) = some obY := by simp [KD, kfind, h.h01]
  cases o with
  | none => simp [b_span_in, ixS_dic, kf, boxD, spD, obY, fget]
  | some s => simp [b_span_in, ixS_dic, kf, boxD, spD, kfind, obY, fget, h.h01]
/-! ### a going as it goes on -/
def BF (p : Pp) (L : Nat) (o : Option (Int × Int)) (par : D) : List (Nat × D) :=
  [(15, papD p), (16, boxD p.n0 o), (17, .dic false (KD p)), (18, .cell (L + 1)), (19, .cell (L + 2)), (20, .cell (L + 3)), (21, .cell (L + 4)), (22, .cell (L + 5)), (23, .cell (L + 6)), (24, par)]
def BS (p : Pp) (L : Nat) (o : Option (Int × Int)) (par : D) (lg : List D) (sp pl : List (D × D)) (db : List D) (t : Store) : Store :=
  .ins 12 (BF p L o par) :: .dic false (AD p) :: .dic false (AG p) :: .lst lg :: .dic true sp :: .dic false pl :: .lst db :: t
theorem boxed_init (h : Ok p) (n : Nat) (o : Option (Int × Int)) (μ : Store) : run P (n + 3) 34 [.cell μ.length, papD p, boxD p.n0 o] (μ ++ [.ins 12 []]) = .ok .non (μ ++ BS p μ.length o .non [] [] [] [] []) := by
  rw [run_def (F := ⟨3, 7, b_Boxed___init__⟩) rfl rfl]
  have hk := fun μ => kinds_run h (n + 1) μ
  have hp := fun μ => put_tog_run h n μ
  have s1 : sz 1 = true := by decide
  have s2 : sz 2 = true := by decide
  have s3 : sz 3 = true := by decide
  simp only [papD, shtD, row0, row1, row2, totL] at hk hp ⊢
  simp [b_Boxed___init__, fput, hk, hp, fget, kput1, kput1b h.h01, kput2b h.h02 h.h12, s1, s2, s3, BS, BF, AG, AD, papD, shtD, row0, row1, row2, totL]
  exact leave_stay (by simp)
theorem noClo_BS (L : Nat) (o : Option (Int × Int)) (par : D) (lg : List D) (sp pl : List (D × D)) (db : List D) (t : Store) : noClo (BS p L o par lg sp pl db t) = noClo t := by simp [BS]
end K67

set_option linter.all false
set_option maxRecDepth 100000
namespace K67
open PySem L2 Co Tx
variable {p : Pp}
def ky (x : Str) : D := .tup [.str x, .int 0]
def ssBody : CS := match b_Boxed_sum_span with
  | .seq _ (.seq _ (.seq (.for _ _ _ (.seq _ (.for _ _ _ b _)) _) _)) => b
  | _ => .skip
def pBody : CS := match b_Boxed_part_at with
  | .seq _ (.seq _ (.seq _ (.seq (.for _ _ _ (.seq _ (.for _ _ _ b _)) _) _))) => b
  | _ => .skip
section
variable (n : Nat) (μ t : Store) (o : Option (Int × Int)) (par : D) (lg : List D) (sp pl : List (D × D)) (db : List D) (s : Int × Int)
  (hs : kfind sp (ky p.n0) = some (spD s)) (hp : kfind pl (.str p.n0) = some (.cell (μ.length + 7))) (h1 : s.1 ≤ s.2) (hb1 : -(2 ^ 100) ≤ s.1) (hb2 : s.2 ≤ 2 ^ 100)
include hs hp h1 hb1 hb2
theorem sumspan_run : run P (n + 1) 36 [.cell μ.length, .str p.n3] (μ ++ BS p μ.length o par lg sp pl db (.lst [.int 0] :: t)) = .ok (spD s) (μ ++ BS p μ.length o par lg sp pl db (.lst [.int 0] :: t)) := by
  obtain ⟨a, b⟩ := s
  simp only at h1 hb1 hb2
  have mb1 : mulB 1 a = true := mulB_s (by omega) (by omega) (by omega) (by omega)
  have mb2 : mulB 1 b = true := mulB_s (by omega) (by omega) (by omega) (by omega)
  have mn : ∀ μ : Store, biS μ .min [.int a, .int b] = .ok (.int a) μ := fun μ => by simp [biS]; omega
  have mx : ∀ μ : Store, biS μ .max [.int a, .int b] = .ok (.int b) μ := fun μ => by simp [biS]; omega
  rw [run_def (F := ⟨2, 10, b_Boxed_sum_span⟩) rfl rfl]
  simp only [ky, spD] at hs ⊢
  have inner : forS (evS P (run P n) ssBody) (.nm 7) .seq [.cell (μ.length + 7)] [7, 8, 9] [some (.cell μ.length), some (.str p.n3), some (.lst [.tup [.int 1, .str p.n0]]), some (.int 0), some (.int 0), some (.int 1), some (.str p.n0), none, none, none] (μ ++ BS p μ.length o par lg sp pl db (.lst [.int 0] :: t))
      = .ok (.nx, wipeE [some (.cell μ.length), some (.str p.n3), some (.lst [.tup [.int 1, .str p.n0]]), some (.int a), some (.int b), some (.int 1), some (.str p.n0), some (.int 0), some (.int a), some (.int b)] [7, 8, 9]) (μ ++ BS p μ.length o par lg sp pl db (.lst [.int 0] :: t)) :=
    forS_c1 (d := .int 0) (env1 := [some (.cell μ.length), some (.str p.n3), some (.lst [.tup [.int 1, .str p.n0]]), some (.int 0), some (.int 0), some (.int 1), some (.str p.n0), some (.int 0), none, none]) (by simp [BS]) (by simp) (by
      simp only [ssBody, b_Boxed_sum_span, BS, BF]
      simp [fget, hs, binS_mul _ _ _ mb1, binS_mul _ _ _ mb2, mn, mx])
  simp only [ssBody, b_Boxed_sum_span, BS, BF] at inner ⊢
  have kA : kfind (AD p) (.str p.n3) = some (.tup [.lst [.tup [.int 1, .str p.n0]], .int 0]) := by simp [AD, kfind]
  have wk : walkedC (μ ++ [.ins 12 (BF p μ.length o par), .dic false (AD p), .dic false (AG p), .lst lg, .dic true sp, .dic false pl, .lst db, .lst [.int 0]] ++ t) .seq [.cell (μ.length + 7)] = none := walk_cl _ (xs := [.int 0]) (by simp)
  simp only [BF, List.append_assoc, List.cons_append, List.nil_append] at wk
  simp [fget, kA, hp, wk, inner]
theorem look_run : run P (n + 2) 37 [.cell μ.length, .str p.n3, .int 0] (μ ++ BS p μ.length o par lg sp pl db (.lst [.int 0] :: t)) = .ok (spD s) (μ ++ BS p μ.length o par lg sp pl db (.lst [.int 0] :: t)) := by
  have ss := sumspan_run n μ t o par lg sp pl db s hs hp h1 hb1 hb2
  have kA : kfind (AD p) (.str p.n3) = some (.tup [.lst [.tup [.int 1, .str p.n0]], .int 0]) := by simp [AD, kfind]
  rw [run_def (F := ⟨3, 3, b_Boxed_look⟩) rfl rfl]
  simp only [BS, BF] at ss ⊢
  simp [b_Boxed_look, fget, kA, ss]
end
end K67

set_option linter.all false
set_option maxRecDepth 100000
namespace K67
open PySem L2 Co Tx
variable {p : Pp}
def Looks (μ : Store) (nm : Str) (f : Nat) (cs : List D) (s : Int × Int) : Prop := ∀ m, cloS (run P (m + 3)) μ.length [.str nm] (μ ++ [.clo f cs]) = .ok (spD s) (μ ++ [.clo f cs])
theorem sure_run (n : Nat) {μ : Store} {f : Nat} {cs : List D} {s : Int × Int} (hs : s.1 ≤ s.2) (h : Looks μ p.n3 f cs s) : run P (n + 4) 31 [syD p, .cell μ.length] (μ ++ [.clo f cs]) = .ok (o3 (kw p.num s)) (μ ++ [.clo f cs]) := by
  have hn := h n
  have sr := fun μ => spanned_run (n + 1) s p.num hs μ
  simp only [spD] at hn
  rw [run_def (F := ⟨2, 2, b_Compare_sure⟩) rfl rfl]
  simp [b_Compare_sure, syD, fget, hn, sr]
theorem first_run (n : Nat) {μ : Store} {f : Nat} {cs : List D} {s : Int × Int} (hs : s.1 ≤ s.2) (h : Looks μ p.n3 f cs s) (hk : kw p.num s = none) : run P (n + 5) 27 [syD p, .cell μ.length] (μ ++ [.clo f cs]) = .ok (syD p) (μ ++ [.clo f cs]) := by
  have h1 := sure_run n hs h
  rw [hk] at h1
  have h2 : ∀ μ : Store, run P (n + 4) 26 [syD p] μ = .ok (.lst [syD p]) μ := fun μ => by
    rw [run_def (F := ⟨1, 1, b_Saying_atoms⟩) rfl rfl]
    simp [b_Saying_atoms]
  have hm : ∀ (μ : Store), methOf P μ 1 (syD p) = some 31 := fun μ => rfl
  have hm0 : ∀ (μ : Store), methOf P μ 0 (syD p) = some 26 := fun μ => rfl
  rw [run_def (F := ⟨2, 3, b_Saying_first_open⟩) rfl rfl]
  simp [b_Saying_first_open, hm0, h2, hm, h1, o3]
section
variable (h : Ok p) (n : Nat) (μ t : Store) (hμ : noClo μ = true) (ht : noClo t = true) (o : Option (Int × Int)) (par : D) (lg : List D) (sp pl : List (D × D)) (db : List D) (s : Int × Int)
  (hs : kfind sp (ky p.n0) = some (spD s)) (hp : kfind pl (.str p.n0) = some (.cell (μ.length + 7))) (h1 : s.1 ≤ s.2) (hb1 : -(2 ^ 100) ≤ s.1) (hb2 : s.2 ≤ 2 ^ 100)
include hμ ht hs hp h1 hb1 hb2 in
theorem looks_of (lf : Nat) (hl : lf = 78 ∨ lf = 79) : Looks (μ ++ BS p μ.length o par lg sp pl db (.lst [.int 0] :: t)) p.n3 lf [.cell μ.length, .int 0] s := by
  intro m
  have hk := look_run m μ (t ++ [.dead]) o par lg sp pl db s hs hp h1 hb1 hb2
  have e : ∀ c : Cell, μ ++ BS p μ.length o par lg sp pl db (.lst [.int 0] :: (t ++ [c])) = (μ ++ BS p μ.length o par lg sp pl db (.lst [.int 0] :: t)) ++ [c] := fun c => by simp [BS]
  rw [e] at hk
  refine cloS_last (by simp [noClo_BS, hμ, ht]) ?_
  rcases hl with rfl | rfl
  · rw [run_def (F := ⟨3, 3, b_lam0⟩) rfl rfl]
    have hm : methOf P ((μ ++ BS p μ.length o par lg sp pl db (.lst [.int 0] :: t)) ++ [.dead]) 4 (.cell μ.length) = some 37 := by simp [BS]
    simp only [List.append_assoc] at hm hk ⊢
    simp [b_lam0, e_lam0, hm, hk, spD]
  · rw [run_def (F := ⟨3, 3, b_lam1⟩) rfl rfl]
    have hm : methOf P ((μ ++ BS p μ.length o par lg sp pl db (.lst [.int 0] :: t)) ++ [.dead]) 4 (.cell μ.length) = some 37 := by simp [BS]
    simp only [List.append_assoc] at hm hk ⊢
    simp [b_lam1, e_lam1, hm, hk, spD]
def midZ (s : Int × Int) : Int := (s.1 + s.2) / 2
include hs hp in
theorem part_run (hlt : s.1 < s.2) : run P (n + 1) 38 [.cell μ.length, syD p, .int 0] (μ ++ BS p μ.length o par lg sp pl db (.lst [.int 0] :: t)) = .ok (.tup [.str p.n0, .int 0, .int (midZ s)]) (μ ++ BS p μ.length o par lg sp pl db (.lst [.int 0] :: t)) := by
  obtain ⟨a, b⟩ := s
  simp only at hlt
  have d2 : divB 2 = true := by decide
  rw [run_def (F := ⟨3, 9, b_Boxed_part_at⟩) rfl rfl]
  simp only [ky, spD, midZ] at hs ⊢
  have inner : forS (evS P (run P n) pBody) (.nm 8) .seq [.cell (μ.length + 7)] [3, 4, 8] [some (.cell μ.length), some (syD p), some (.int 0), none, none, none, some (.int 1), some (.str p.n0), none] (μ ++ BS p μ.length o par lg sp pl db (.lst [.int 0] :: t))
      = .ok (.rt (.tup [.str p.n0, .int 0, .int ((a + b) / 2)]), [some (.cell μ.length), some (syD p), some (.int 0), some (.int a), some (.int b), none, some (.int 1), some (.str p.n0), some (.int 0)]) (μ ++ BS p μ.length o par lg sp pl db (.lst [.int 0] :: t)) :=
    forS_c1r (d := .int 0) (env1 := [some (.cell μ.length), some (syD p), some (.int 0), none, none, none, some (.int 1), some (.str p.n0), some (.int 0)]) (by simp [BS]) (by simp) (by
      simp only [pBody, b_Boxed_part_at, BS, BF]
      simp [fget, hs, hlt, binS_fdiv _ _ _ d2])
  simp only [pBody, b_Boxed_part_at, BS, BF] at inner ⊢
  have kA : kfind (AD p) (.str p.n3) = some (.tup [.lst [.tup [.int 1, .str p.n0]], .int 0]) := by simp [AD, kfind]
  have wk : walkedC (μ ++ [.ins 12 (BF p μ.length o par), .dic false (AD p), .dic false (AG p), .lst lg, .dic true sp, .dic false pl, .lst db, .lst [.int 0]] ++ t) .seq [.cell (μ.length + 7)] = none := walk_cl _ (xs := [.int 0]) (by simp)
  simp only [BF, List.append_assoc, List.cons_append, List.nil_append] at wk
  have sn : ∀ μ : Store, fldS P.fok μ (insOf μ (syD p)) 0 = .ok (.str p.n3) μ := fun μ => by simp [syD, fget]
  simp [fget, kA, hp, wk, sn, inner]
theorem agreed_non (n : Nat) (c : Nat) (k : D) (μ : Store) : run P (n + 1) 39 [.cell c, .non, k] μ = .ok (.bl true) μ := by
  rw [run_def (F := ⟨3, 4, b_Boxed_agreed⟩) rfl rfl]
  simp [b_Boxed_agreed]
include h hμ ht hs hp h1 hb1 hb2 in
theorem agreed_run : run P (n + 7) 39 [.cell μ.length, syD p, .int 0] (μ ++ BS p μ.length o par lg sp pl db (.lst [.int 0] :: t)) =
    .ok (o3 (kw p.num s)) (μ ++ BS p μ.length o (if kw p.num s = none then .tup [.str p.n0, .int 0, .int (midZ s)] else par) lg sp pl db (.lst [.int 0] :: t)) := by
  have st := set_run h (n + 4) (μ ++ BS p μ.length o par lg sp pl db (.lst [.int 0] :: t))
  have l1 := looks_of μ t hμ ht o par lg sp pl db s hs hp h1 hb1 hb2 78 (.inl rfl)
  have l2 := looks_of μ t hμ ht o par lg sp pl db s hs hp h1 hb1 hb2 79 (.inr rfl)
  have nc : noClo (μ ++ BS p μ.length o par lg sp pl db (.lst [.int 0] :: t)) = true := by simp [noClo_BS, hμ, ht]
  have h2 := lamS_pure nc (sure_run (n + 2) h1 l1) (o3_lt _ _)
  have m1 : ∀ μ : Store, methOf P μ 5 (syD p) = some 29 := fun μ => rfl
  have m2 : ∀ μ : Store, methOf P μ 1 (syD p) = some 31 := fun μ => rfl
  have m3 : ∀ μ : Store, methOf P μ 7 (syD p) = some 27 := fun μ => rfl
  have z : decide (syD p = .non) = false := rfl
  rw [run_def (F := ⟨3, 4, b_Boxed_agreed⟩) rfl rfl]
  cases h3 : kw p.num s with
  | some b =>
    rw [h3] at h2
    simp only [BS, BF] at st h2 ⊢
    simp [b_Boxed_agreed, z, m1, fget, st, m2, h2, o3]
  | none =>
    have hlt : s.1 < s.2 := by
      unfold kw at h3
      split at h3
      · cases h3
      · next hn =>
        split at h3
        · next hc =>
          obtain ⟨c1, c2⟩ := hc
          by_cases e : s.1 = s.2
          · exact absurd ⟨by omega, by omega⟩ hn
          · omega
        · cases h3
    have h5 := lamS_pure nc (first_run (n + 1) h1 l2 h3) (syD_lt _ _)
    have h6 := part_run (n + 5) μ t o par lg sp pl db s hs hp hlt
    rw [h3] at h2
    simp only [BS, BF] at st h2 h5 h6 ⊢
    simp [b_Boxed_agreed, z, m1, fget, st, m2, h2, o3, m3, h5, h6, fput]
end
end K67

set_option linter.all false
set_option maxRecDepth 100000
namespace K67
open PySem L2 Co Tx
variable {p : Pp}
def lgR (w x : Str) : D := .tup [.str w, .str x, .int 0]
def endR : D := .tup [.str "end"]
@[simp] theorem lgR_lt (n : Nat) (w x : Str) : (lgR w x).lt n = true := by simp [lgR]
@[simp] theorem endR_lt (n : Nat) : endR.lt n = true := by simp [endR]
def SP0 (p : Pp) (s : Int × Int) : List (D × D) := [(ky p.n0, spD s)]
def SP1 (p : Pp) (s : Int × Int) : List (D × D) := [(ky p.n0, spD s), (ky p.n1, spD (0, 1))]
def PL0 (p : Pp) (L : Nat) : List (D × D) := [(.str p.n0, .cell (L + 7))]
def PL1 (p : Pp) (L : Nat) : List (D × D) := [(.str p.n0, .cell (L + 7)), (.str p.n1, .cell (L + 8))]
def S0 (p : Pp) (L : Nat) (o : Option (Int × Int)) (par : D) (lg : List D) : Store := BS p L o par lg (SP0 p (spO p o)) (PL0 p L) [] [.lst [.int 0]]
def S1 (p : Pp) (L : Nat) (o : Option (Int × Int)) (lg db : List D) : Store := BS p L o .non lg (SP1 p (spO p o)) (PL1 p L) db [.lst [.int 0], .lst [.int 0]]
def B0 (p : Pp) (L : Nat) (o : Option (Int × Int)) : Store := BS p L o .non [] [] [] [] []
section
variable (h : Ok p) (n : Nat) (μ : Store) (o : Option (Int × Int))
include h
theorem asked0 : run P (n + 2) 40 [.cell μ.length, row0 p, .int 0] (μ ++ B0 p μ.length o) = .ok .non (μ ++ S0 p μ.length o .non [lgR "ask" p.n0]) := by
  have hs := span0_run h n o
  have s1 : sz 1 = true := by decide
  rw [run_def (F := ⟨3, 3, b_Boxed_asked⟩) rfl rfl]
  simp only [B0, BS, BF, row0, S0, SP0, PL0, lgR, ky] at hs ⊢
  simp [b_Boxed_asked, fget, hs, s1, kput1]
  exact leave_stay (by simp)
theorem asked1 : run P (n + 2) 40 [.cell μ.length, row1 p, .int 0] (μ ++ S0 p μ.length o .non [lgR "ask" p.n0]) = .ok .non (μ ++ S1 p μ.length o [lgR "ask" p.n0, lgR "ask" p.n1] []) := by
  have hs := span1_run h n o
  have s1 : sz 1 = true := by decide
  have s2 : sz 2 = true := by decide
  have k1 : ∀ d e, kput [(D.tup [.str p.n0, .int 0], d)] (.tup [.str p.n1, .int 0]) e = [(D.tup [.str p.n0, .int 0], d), (D.tup [.str p.n1, .int 0], e)] := fun d e => by simp [kput, h.h01]
  rw [run_def (F := ⟨3, 3, b_Boxed_asked⟩) rfl rfl]
  simp only [BS, BF, row1, S0, SP0, PL0, lgR, ky, S1, SP1, PL1] at hs ⊢
  simp [b_Boxed_asked, fget, hs, s1, s2, k1, kput1b h.h01, kfind, h.h01]
  exact leave_stay (by simp)
end
theorem checked1 (n : Nat) (μ : Store) (o : Option (Int × Int)) : run P (n + 1) 41 [.cell μ.length, row2 p, .int 0, .bl true] (μ ++ S1 p μ.length o [lgR "ask" p.n0, lgR "ask" p.n1] []) = .ok (.bl true) (μ ++ S1 p μ.length o [lgR "ask" p.n0, lgR "ask" p.n1, lgR "pass" p.n2] []) := by
  have s3 : sz 3 = true := by decide
  rw [run_def (F := ⟨4, 4, b_Boxed_checked⟩) rfl rfl]
  simp only [BS, BF, row2, S1, lgR]
  simp [b_Boxed_checked, fget, s3]
theorem checked0 (n : Nat) (μ : Store) (o : Option (Int × Int)) : run P (n + 1) 41 [.cell μ.length, row2 p, .int 0, .bl false] (μ ++ S0 p μ.length o .non [lgR "ask" p.n0]) = .ok (.bl false) (μ ++ S0 p μ.length o .non [lgR "ask" p.n0, lgR "held" p.n2]) := by
  have s2 : sz 2 = true := by decide
  rw [run_def (F := ⟨4, 4, b_Boxed_checked⟩) rfl rfl]
  simp only [BS, BF, row2, S0, lgR]
  simp [b_Boxed_checked, fget, s2]
/-- what the going comes to -/
def kn (p : Pp) (o : Option (Int × Int)) : Option Bool := kw p.num (spO p o)
def parD (p : Pp) (o : Option (Int × Int)) : D := .tup [.str p.n0, .int 0, .int (midZ (spO p o))]
def SR (p : Pp) (L : Nat) (o : Option (Int × Int)) : Store := match kn p o with
  | none => S0 p L o (parD p o) [lgR "ask" p.n0]
  | some true => S1 p L o [lgR "ask" p.n0, lgR "ask" p.n1, lgR "pass" p.n2] []
  | some false => S0 p L o .non [lgR "ask" p.n0, lgR "held" p.n2]
theorem meth_BS (m : Nat) (μ t : Store) (o : Option (Int × Int)) (par : D) (lg : List D) (sp pl : List (D × D)) (db : List D) : methOf P (μ ++ BS p μ.length o par lg sp pl db t) m (.cell μ.length) = mlk P 12 m := by simp [BS]
theorem keeps_B0 (μ : Store) (o : Option (Int × Int)) (par : D) (lg : List D) : keeps (μ.length + 7) (B0 p μ.length o) (S0 p μ.length o par lg) = false := by
  simp [B0, S0, BS, BF, PL0]
theorem keeps_B1 (μ : Store) (o : Option (Int × Int)) (lg db : List D) : keeps (μ.length + 7) (B0 p μ.length o) (S1 p μ.length o lg db) = false := by
  simp [B0, S1, BS, BF, PL1]
theorem keeps_S1 (μ : Store) (o : Option (Int × Int)) (par : D) (lg lg' db : List D) : keeps (μ.length + 8) (S0 p μ.length o par lg) (S1 p μ.length o lg' db) = false := by
  simp [S0, S1, BS, BF, PL0, PL1]
theorem len_B0 (L : Nat) (o : Option (Int × Int)) : (B0 p L o).length = 7 := rfl
theorem len_S0 (L : Nat) (o : Option (Int × Int)) (par : D) (lg : List D) : (S0 p L o par lg).length = 8 := rfl
theorem len_S1 (L : Nat) (o : Option (Int × Int)) (lg db : List D) : (S1 p L o lg db).length = 9 := rfl
/-- the span lies within bounds -/
def inB (p : Pp) (o : Option (Int × Int)) : Prop := p.lo ≤ (spO p o).1 ∧ (spO p o).1 ≤ (spO p o).2 ∧ (spO p o).2 ≤ p.hi
theorem thr_run (h : Ok p) (n : Nat) (μ : Store) (hμ : noClo μ = true) (o : Option (Int × Int)) (ho : inB p o) : run P (n + 8) 42 [.cell μ.length, shtD p, .int 0] (μ ++ B0 p μ.length o) = .ok (.bl (kn p o == some true)) (μ ++ SR p μ.length o) := by
  obtain ⟨o1, o2, o3'⟩ := ho
  have hb1 : -(2 ^ 100) ≤ (spO p o).1 := by have := h.b1; omega
  have hb2 : (spO p o).2 ≤ 2 ^ 100 := by have := h.b2; omega
  have a0 : ∀ μ' : Store, run P (n + 7) 39 [.cell μ.length, .non, .int 0] μ' = .ok (.bl true) μ' := fun μ' => agreed_non (n + 6) _ _ _
  have q0 := asked0 h (n + 5) μ o
  have q1 := asked1 h (n + 5) μ o
  have c1 := checked1 (p := p) (n + 6) μ o
  have c0 := checked0 (p := p) (n + 6) μ o
  have a1 : run P (n + 7) 39 [.cell μ.length, syD p, .int 0] (μ ++ S0 p μ.length o .non [lgR "ask" p.n0]) = .ok (K67.o3 (kn p o)) (μ ++ S0 p μ.length o (if kn p o = none then parD p o else .non) [lgR "ask" p.n0]) :=
    agreed_run h n μ [] hμ rfl o .non [lgR "ask" p.n0] (SP0 p (spO p o)) (PL0 p μ.length) [] (spO p o) (by simp [SP0, kfind]) (by simp [PL0, kfind]) o2 hb1 hb2
  have a2 : run P (n + 7) 39 [.cell μ.length, syD p, .int 0] (μ ++ S1 p μ.length o [lgR "ask" p.n0, lgR "ask" p.n1] []) = .ok (K67.o3 (kn p o)) (μ ++ BS p μ.length o (if kn p o = none then parD p o else .non) [lgR "ask" p.n0, lgR "ask" p.n1] (SP1 p (spO p o)) (PL1 p μ.length) [] [.lst [.int 0], .lst [.int 0]]) :=
    agreed_run h n μ [.lst [.int 0]] hμ rfl o .non [lgR "ask" p.n0, lgR "ask" p.n1] (SP1 p (spO p o)) (PL1 p μ.length) [] (spO p o) (by simp [SP1, kfind]) (by simp [PL1, kfind]) o2 hb1 hb2
  have m0 : ∀ m, methOf P (μ ++ B0 p μ.length o) m (.cell μ.length) = mlk P 12 m := fun m => meth_BS m _ _ _ _ _ _ _ _
  have m1 : ∀ m par lg, methOf P (μ ++ S0 p μ.length o par lg) m (.cell μ.length) = mlk P 12 m := fun m par lg => meth_BS m _ _ _ _ _ _ _ _
  have m2 : ∀ m lg db, methOf P (μ ++ S1 p μ.length o lg db) m (.cell μ.length) = mlk P 12 m := fun m lg db => meth_BS m _ _ _ _ _ _ _ _
  have i0 : ∀ (μ : Store) (fs : List (Nat × D)), isiS P.sub μ (.ins 6 fs) [.own 7] = some false := fun μ fs => rfl
  have i1 : ∀ (μ : Store) (fs : List (Nat × D)), isiS P.sub μ (.ins 7 fs) [.own 7] = some true := fun μ fs => rfl
  rw [run_def (F := ⟨3, 6, b_Boxed_through⟩) rfl rfl]
  simp only [row0, row1, row2] at q0 q1 c1 c0
  cases hk : kn p o with
  | none =>
    rw [hk] at a1
    simp [b_Boxed_through, shtD, row0, row1, row2, fget, i0, i1, m0, a0, q0, turnEnd_stay, leave_stay, keeps_B0, len_B0, m1, a1, K67.o3, SR, hk]
  | some b =>
    rw [hk] at a1 a2
    cases b with
    | true =>
      have a2 : run P (n + 7) 39 [.cell μ.length, syD p, .int 0] (μ ++ S1 p μ.length o [lgR "ask" p.n0, lgR "ask" p.n1] []) = .ok (.bl true) (μ ++ S1 p μ.length o [lgR "ask" p.n0, lgR "ask" p.n1] []) := a2
      simp [b_Boxed_through, shtD, row0, row1, row2, fget, i0, i1, m0, a0, q0, turnEnd_stay, leave_stay, keeps_B0, keeps_B1, len_B0, m1, a1, K67.o3, SR, hk, q1, keeps_S1, len_S0, m2, a2, c1, len_S1]
    | false =>
      simp [b_Boxed_through, shtD, row0, row1, row2, fget, i0, i1, m0, a0, q0, turnEnd_stay, leave_stay, keeps_B0, len_B0, m1, a1, K67.o3, SR, hk, c0, len_S0]
end K67

set_option linter.all false
set_option maxRecDepth 100000
namespace K67
open PySem L2 Co Tx
variable {p : Pp}
theorem ways_run (h : Ok p) (n : Nat) (μ : Store) (hμ : noClo μ = true) (o : Option (Int × Int)) (ho : inB p o) (hk : kn p o = some true) : run P (n + 8) 44 [.cell μ.length, shtD p] (μ ++ S1 p μ.length o [lgR "ask" p.n0, lgR "ask" p.n1, lgR "pass" p.n2] []) = .ok (.lst [.str "end", .str "end"]) (μ ++ S1 p μ.length o [lgR "ask" p.n0, lgR "ask" p.n1, lgR "pass" p.n2] [.str "only"]) := by
  obtain ⟨o1, o2, o3'⟩ := ho
  have hb1 : -(2 ^ 100) ≤ (spO p o).1 := by have := h.b1; omega
  have hb2 : (spO p o).2 ≤ 2 ^ 100 := by have := h.b2; omega
  have hk' : kw p.num (spO p o) = some true := hk
  have a0 : ∀ μ' : Store, run P (n + 7) 39 [.cell μ.length, .non, .int 0] μ' = .ok (.bl true) μ' := fun μ' => agreed_non (n + 6) _ _ _
  have a2 := agreed_run h n μ [.lst [.int 0], .lst []] hμ rfl o .non [lgR "ask" p.n0, lgR "ask" p.n1, lgR "pass" p.n2] (SP1 p (spO p o)) (PL1 p μ.length) [] (spO p o) (by simp [SP1, kfind]) (by simp [PL1, kfind]) o2 hb1 hb2
  rw [hk'] at a2
  have s1 : sz 1 = true := by decide
  have s2 : sz 2 = true := by decide
  rw [run_def (F := ⟨2, 6, b_Boxed_way_out⟩) rfl rfl]
  simp only [BS, BF, S1, shtD, wayL, K67.o3] at a2 ⊢
  simp [b_Boxed_way_out, fget, a2, a0, s1, s2]
  rw [leave_gen]
  simp [SP1, PL1, ky, spD]
theorem turns_run (n c : Nat) (μ : Store) : run P (n + 1) 43 [.cell c, shtD p] μ = .ok (.int 1) μ := by
  rw [run_def (F := ⟨2, 4, b_Boxed_turns_of⟩) rfl rfl]
  simp [b_Boxed_turns_of, shtD, fget]
theorem keeps_BR (μ : Store) (o : Option (Int × Int)) : keeps (μ.length + 7) (B0 p μ.length o) (SR p μ.length o) = false := by
  unfold SR
  split
  · exact keeps_B0 _ _ _ _
  · exact keeps_B1 _ _ _ _
  · exact keeps_B0 _ _ _ _
theorem meth_SR (m : Nat) (μ : Store) (o : Option (Int × Int)) : methOf P (μ ++ SR p μ.length o) m (.cell μ.length) = mlk P 12 m := by
  unfold SR
  split
  · exact meth_BS m _ _ _ _ _ _ _ _
  · exact meth_BS m _ _ _ _ _ _ _ _
  · exact meth_BS m _ _ _ _ _ _ _ _
def doneD (p : Pp) (o : Option (Int × Int)) : D := if kn p o = some true then .lst [.str "end", .str "end"] else .non
def SQ (p : Pp) (L : Nat) (o : Option (Int × Int)) : Store := match kn p o with
  | none => S0 p L o (parD p o) [lgR "ask" p.n0]
  | some true => S1 p L o [lgR "ask" p.n0, lgR "ask" p.n1, lgR "pass" p.n2] [.str "only"]
  | some false => S0 p L o .non [lgR "ask" p.n0, lgR "held" p.n2]
theorem keeps_BQ (μ : Store) (o : Option (Int × Int)) : keeps (μ.length + 7) (B0 p μ.length o) (SQ p μ.length o) = false := by
  unfold SQ
  split
  · exact keeps_B0 _ _ _ _
  · exact keeps_B1 _ _ _ _
  · exact keeps_B0 _ _ _ _
theorem done_run (h : Ok p) (n : Nat) (μ : Store) (hμ : noClo μ = true) (o : Option (Int × Int)) (ho : inB p o) : run P (n + 9) 45 [.cell μ.length, shtD p] (μ ++ B0 p μ.length o) = .ok (doneD p o) (μ ++ SQ p μ.length o) := by
  have t := thr_run h n μ hμ o ho
  have tu := turns_run (p := p) (n + 7) μ.length (μ ++ B0 p μ.length o)
  have wa := fun hk => ways_run h n μ hμ o ho hk
  have m0 : ∀ m, methOf P (μ ++ B0 p μ.length o) m (.cell μ.length) = mlk P 12 m := fun m => meth_BS m _ _ _ _ _ _ _ _
  have m1 := fun m => meth_SR (p := p) m μ o
  have kb := keeps_BR (p := p) μ o
  have kq := keeps_BQ (p := p) μ o
  have r1 : ∀ (b : Co.Env → Store → RS) (tg : TGT) (clr : List Nat) (env : Co.Env) (μ : Store), forS b tg .rng1 [.int 1] clr env μ = forL b tg tt clr [.int 0] env μ := fun b tg clr env μ => forS_rng1 (n := 1) (by decide)
  rw [run_def (F := ⟨2, 4, b_Boxed_sheet_done⟩) rfl rfl]
  unfold doneD SQ
  unfold SQ at kq
  unfold SR at t m1 kb
  cases hk : kn p o with
  | none =>
    rw [hk] at t kb kq
    simp [b_Boxed_sheet_done, m0, tu, r1, t, turnEnd_stay, leave_stay, kb, len_B0]
  | some b =>
    rw [hk] at t m1 kb kq
    cases b with
    | true =>
      have wa := wa hk
      simp only at t m1 kb kq
      simp [b_Boxed_sheet_done, m0, tu, r1, t, turnEnd_stay, leave_stay, kb, kq, len_B0, m1, wa]
    | false =>
      simp [b_Boxed_sheet_done, m0, tu, r1, t, turnEnd_stay, leave_stay, kb, len_B0]
def lgD (p : Pp) : Option Bool → List D
  | none => [lgR "ask" p.n0]
  | some true => [lgR "ask" p.n0, lgR "ask" p.n1, lgR "pass" p.n2, endR]
  | some false => [lgR "ask" p.n0, lgR "held" p.n2]
def dbD : Option Bool → List D
  | some true => [.str "only"]
  | _ => []
def goD (p : Pp) (o : Option (Int × Int)) : D := .tup [.bl (kn p o).isSome, .lst (lgD p (kn p o)), .lst (dbD (kn p o)), if kn p o = none then parD p o else .non]
theorem boxed_make (h : Ok p) (n : Nat) (o : Option (Int × Int)) (μ : Store) : makeS P (run P (n + 3)) 12 false [papD p, boxD p.n0 o] μ = .ok (.cell μ.length) (μ ++ B0 p μ.length o) :=
  make_cell P μ _ (in_12) (boxed_init h n o μ)
theorem going_run (h : Ok p) (n : Nat) (μ : Store) (hμ : noClo μ = true) (o : Option (Int × Int)) (ho : inB p o) : run P (n + 10) 46 [papD p, boxD p.n0 o] μ = .ok (goD p o) μ := by
  have bm := boxed_make h (n + 6) o μ
  have dn := done_run h n μ hμ o ho
  have m0 : ∀ m, methOf P (μ ++ B0 p μ.length o) m (.cell μ.length) = mlk P 12 m := fun m => meth_BS m _ _ _ _ _ _ _ _
  have kb := keeps_BQ (p := p) μ o
  have s4 : sz 4 = true := by decide
  have hf : ∀ μ : Store, fldS P.fok μ (insOf μ (papD p)) 10 = .ok (.lst [shtD p]) μ := fun μ => by simp [papD, fget]
  rw [run_def (F := ⟨2, 6, b_going_by⟩) rfl rfl]
  unfold doneD at dn
  unfold goD
  unfold SQ at dn kb
  cases hk : kn p o with
  | none =>
    rw [hk] at dn kb
    simp [b_going_by, bm, hf, m0, dn]
    simp [S0, BS, BF, kFrzf, kFrzf2, fget, fput, parD, lgD, dbD]
  | some b =>
    rw [hk] at dn kb
    cases b with
    | true =>
      simp [b_going_by, bm, hf, m0, dn, eqS_nil, turnEnd_stay, kb, len_B0]
      simp [S1, BS, BF, kFrzf, kFrzf2, fget, fput, lgD, dbD, s4, endR]
    | false =>
      simp [b_going_by, bm, hf, m0, dn]
      simp [S0, BS, BF, kFrzf, kFrzf2, fget, fput, lgD, dbD]
end K67

set_option linter.all false
set_option maxRecDepth 100000
namespace K67
open PySem L2 Co Tx
variable {p : Pp}
def rgR (x : Str) (s : Int × Int) : D := .tup [.str x, .int 0, .int s.1, .int s.2]
@[simp] theorem rgR_lt (n : Nat) (x : Str) (s : Int × Int) : (rgR x s).lt n = true := by simp [rgR]
def rgD (p : Pp) (o : Option (Int × Int)) : List D := rgR p.n0 (spO p o) :: (if kn p o = some true then [rgR p.n1 (0, 1)] else [])
theorem ranges_run (h : Ok p) (n : Nat) (μ : Store) (o : Option (Int × Int)) : run P (n + 2) 48 [.dic false (KD p), boxD p.n0 o, .lst (lgD p (kn p o))] μ = .ok (.lst (rgD p o)) μ := by
  have h0 := fun μ => span0_run h n o μ
  have h1 := fun μ => span1_run h n o μ
  have e0 : ¬ (("end" : Str) = "ask") := by decide +kernel
  have e1 : ¬ (("pass" : Str) = "ask") := by decide +kernel
  have e2 : ¬ (("held" : Str) = "ask") := by decide +kernel
  have s1 : sz 1 = true := by decide
  have s2 : sz 2 = true := by decide
  rw [run_def (F := ⟨3, 7, b_ranges_of⟩) rfl rfl]
  cases hk : kn p o with
  | none => simp [b_ranges_of, lgD, lgR, h0, spD, s1, rgD, rgR, hk]
  | some b => cases b <;> simp [b_ranges_of, lgD, lgR, endR, h0, h1, spD, s1, s2, e0, e1, e2, rgD, rgR, hk]
theorem parts_run (h : Ok p) (n : Nat) (μ : Store) (o : Option (Int × Int)) (c : Int) : run P (n + 2) 47 [.dic false (KD p), boxD p.n0 o, .str p.n0, .int 0, .int c] μ = .ok (.lst [boxD p.n0 (some ((spO p o).1, c)), boxD p.n0 (some (c + 1, (spO p o).2))]) μ := by
  have h0 := fun μ => span0_run h n o μ
  have s1 : sz 1 = true := by decide
  have s2 : sz 2 = true := by decide
  rw [run_def (F := ⟨5, 9, b_parts_of_box⟩) rfl rfl]
  cases o with
  | none =>
    have dc : ∀ μ : Store, biS μ (.dict false) [boxD p.n0 none] = put μ false (.dic true []) := fun μ => dict_copyF (by simp [boxD]) (by simp)
    simp only [boxD, spO, spD, Option.getD_none] at h0 dc ⊢
    simp [b_parts_of_box, h0, dc, s1, kput1]
  | some s =>
    have dc : ∀ μ : Store, biS μ (.dict false) [boxD p.n0 (some s)] = put μ false (.dic true [(.tup [.str p.n0, .int 0], .tup [.int s.1, .int s.2])]) := fun μ => dict_copyF (by simp [boxD]) (by simp)
    have kp : ∀ d, kput [(D.tup [.str p.n0, .int 0], D.tup [.int s.1, .int s.2])] (.tup [.str p.n0, .int 0]) d = [(D.tup [.str p.n0, .int 0], d)] := fun d => by simp [kput]
    simp only [boxD, spO, spD, Option.getD_some] at h0 dc ⊢
    simp [b_parts_of_box, h0, dc, s2, kp]
/-! ### the cover, as plain steps -/
inductive Nd where
  | leaf (o : Option (Int × Int))
  | spl (c : Int) (a : Nat)
structure Cv where
  bs : List (Option (Int × Int))
  nd : List Nd
  sp : Nat
def goes (p : Pp) (most sp : Nat) (o : Option (Int × Int)) : Bool := (kn p o).isSome || decide (most ≤ sp)
def cutO (p : Pp) (o : Option (Int × Int)) : Int := midZ (spO p o)
def stepC (p : Pp) (most : Nat) (s : Cv) : Cv := match s.bs[s.nd.length]? with
  | none => s
  | some o => if goes p most s.sp o then ⟨s.bs, s.nd ++ [.leaf o], s.sp⟩
    else ⟨s.bs ++ [some ((spO p o).1, cutO p o), some (cutO p o + 1, (spO p o).2)], s.nd ++ [.spl (cutO p o) s.bs.length], s.sp + 1⟩
def cv (p : Pp) (most : Nat) (o : Option (Int × Int)) : Nat → Cv
  | 0 => ⟨[o], [], 0⟩
  | j + 1 => stepC p most (cv p most o j)
section
variable (p : Pp) (most : Nat) (o : Option (Int × Int))
theorem cv_inv : ∀ j, (cv p most o j).bs.length = 1 + 2 * (cv p most o j).sp ∧ (cv p most o j).sp ≤ most ∧ (cv p most o j).nd.length ≤ (cv p most o j).bs.length
  | 0 => by simp [cv]
  | j + 1 => by
    obtain ⟨h1, h2, h3⟩ := cv_inv j
    show (stepC p most (cv p most o j)).bs.length = _ ∧ (stepC p most (cv p most o j)).sp ≤ most ∧ (stepC p most (cv p most o j)).nd.length ≤ (stepC p most (cv p most o j)).bs.length
    simp only [cv]
    generalize cv p most o j = s at h1 h2 h3
    unfold stepC
    cases h : s.bs[s.nd.length]? with
    | none => exact ⟨h1, h2, h3⟩
    | some q =>
      have hl := lt_of_get h
      simp only
      by_cases hg : goes p most s.sp q = true
      · rw [if_pos hg]
        refine ⟨h1, h2, ?_⟩
        simp only [List.length_append, List.length_singleton]
        omega
      · rw [if_neg hg]
        have : ¬ most ≤ s.sp := by
          intro hc
          exact hg (by simp [goes, hc])
        simp only [List.length_append, List.length_singleton, List.length_cons, List.length_nil]
        omega
theorem cv_go (j : Nat) (h : (cv p most o j).nd.length < (cv p most o j).bs.length) : (cv p most o (j + 1)).nd.length = (cv p most o j).nd.length + 1 := by
  show (stepC p most (cv p most o j)).nd.length = _
  generalize cv p most o j = s at h
  unfold stepC
  rw [List.getElem?_eq_getElem h]
  simp only
  split <;> simp
theorem cv_stop : ∃ m, m ≤ 2 * most + 1 ∧ (cv p most o m).nd.length = (cv p most o m).bs.length ∧ ∀ j, j < m → (cv p most o j).nd.length < (cv p most o j).bs.length := by
  have key : ∀ i, (∃ m, m ≤ 2 * most + 1 ∧ (cv p most o m).nd.length = (cv p most o m).bs.length ∧ ∀ j, j < m → (cv p most o j).nd.length < (cv p most o j).bs.length) ∨ ((cv p most o i).nd.length = i ∧ ∀ j, j < i → (cv p most o j).nd.length < (cv p most o j).bs.length) := by
    intro i
    induction i with
    | zero => exact .inr ⟨rfl, fun j hj => absurd hj (Nat.not_lt_zero _)⟩
    | succ i ih =>
      rcases ih with h | ⟨h1, h2⟩
      · exact .inl h
      · obtain ⟨i1, i2, i3⟩ := cv_inv p most o i
        by_cases hl : (cv p most o i).nd.length < (cv p most o i).bs.length
        · refine .inr ⟨by rw [cv_go p most o i hl, h1], fun j hj => ?_⟩
          rcases Nat.lt_succ_iff_lt_or_eq.mp hj with q | q
          · exact h2 j q
          · subst q
            exact hl
        · exact .inl ⟨i, by omega, by omega, h2⟩
  rcases key (2 * most + 2) with h | ⟨h1, h2⟩
  · exact h
  · obtain ⟨i1, i2, i3⟩ := cv_inv p most o (2 * most + 2)
    omega
end
def Nd.D (p : Pp) : Nd → D
  | .leaf o => .tup [.str "leaf", .bl (kn p o).isSome, .lst (lgD p (kn p o)), .lst (rgD p o), .lst (dbD (kn p o))]
  | .spl c a => .tup [.str "split", .str p.n0, .int 0, .int c, .int (a : Int), .int (a + 1 : Int)]
@[simp] theorem lgD_lt (p : Pp) (n : Nat) (b : Option Bool) : D.lts n (lgD p b) = true := by
  cases b with
  | none => simp [lgD]
  | some b => cases b <;> simp [lgD]
@[simp] theorem dbD_lt (n : Nat) (b : Option Bool) : D.lts n (dbD b) = true := by
  cases b with
  | none => simp [dbD]
  | some b => cases b <;> simp [dbD]
@[simp] theorem rgD_lt (p : Pp) (n : Nat) (o : Option (Int × Int)) : D.lts n (rgD p o) = true := by
  unfold rgD
  split <;> simp
@[simp] theorem Nd.D_lt (p : Pp) (n : Nat) (d : Nd) : (d.D p).lt n = true := by cases d <;> simp [Nd.D]
def boxL (p : Pp) (s : Cv) : List D := s.bs.map (boxD p.n0)
def ndL (p : Pp) (s : Cv) : List D := s.nd.map (Nd.D p)
@[simp] theorem boxL_lt (p : Pp) (n : Nat) (s : Cv) : D.lts n (boxL p s) = true := lts_map n _ _ fun _ _ => boxD_lt _ _ _
@[simp] theorem ndL_lt (p : Pp) (n : Nat) (s : Cv) : D.lts n (ndL p s) = true := lts_map n _ _ fun _ _ => Nd.D_lt _ _ _
theorem boxL_len (p : Pp) (s : Cv) : (boxL p s).length = s.bs.length := List.length_map ..
theorem ndL_len (p : Pp) (s : Cv) : (ndL p s).length = s.nd.length := List.length_map ..
end K67
namespace K67
open PySem L2 Co Tx
variable {p : Pp}
theorem kw_none_lt {num : Int} {s : Int × Int} (hs : s.1 ≤ s.2) (h3 : kw num s = none) : s.1 < s.2 ∧ s.1 ≤ num ∧ num ≤ s.2 := by
  unfold kw at h3
  split at h3
  · cases h3
  · next hn =>
    split at h3
    · next hc =>
      obtain ⟨c1, c2⟩ := hc
      refine ⟨?_, c1, c2⟩
      by_cases e : s.1 = s.2
      · exact absurd ⟨by omega, by omega⟩ hn
      · omega
    · cases h3
theorem cv_bnd (most : Nat) (o : Option (Int × Int)) (ho : inB p o) : ∀ j, ∀ b ∈ (cv p most o j).bs, inB p b
  | 0 => by
    intro b hb
    rw [show (cv p most o 0).bs = [o] from rfl, List.mem_singleton] at hb
    subst hb
    exact ho
  | j + 1 => by
    have ih := cv_bnd most o ho j
    show ∀ b ∈ (stepC p most (cv p most o j)).bs, _
    generalize cv p most o j = s at ih
    unfold stepC
    cases hq : s.bs[s.nd.length]? with
    | none => exact ih
    | some q =>
      have hq' := ih q (List.mem_of_getElem? hq)
      simp only
      by_cases hg : goes p most s.sp q = true
      · rw [if_pos hg]
        exact ih
      · rw [if_neg hg]
        have hk : kn p q = none := by
          unfold goes at hg
          cases hk : kn p q with
          | none => rfl
          | some b => simp [hk] at hg
        obtain ⟨b1, b2, b3⟩ := hq'
        obtain ⟨c0, c1, c2⟩ := kw_none_lt b2 hk
        intro b hb
        rw [List.mem_append] at hb
        rcases hb with hb | hb
        · exact ih b hb
        · simp only [List.mem_cons, List.not_mem_nil, or_false] at hb
          rcases hb with rfl | rfl
          · exact ⟨b1, show (spO p q).1 ≤ cutO p q by unfold cutO midZ; omega, show cutO p q ≤ p.hi by unfold cutO midZ; omega⟩
          · exact ⟨show p.lo ≤ cutO p q + 1 by unfold cutO midZ; omega, show cutO p q + 1 ≤ (spO p q).2 by unfold cutO midZ; omega, b3⟩
end K67

set_option linter.all false
set_option maxRecDepth 100000
namespace K67
open PySem L2 Co Tx
variable {p : Pp}
def cCond : CE := match b_cover with
  | .seq _ (.seq _ (.seq _ (.seq _ (.seq _ (.seq (.while c _ _) _))))) => c
  | _ => .unk
def cBody : CS := match b_cover with
  | .seq _ (.seq _ (.seq _ (.seq _ (.seq _ (.seq (.while _ b _) _))))) => b
  | _ => .skip
def cSt (p : Pp) (most : Nat) (o : Option (Int × Int)) (μ : Store) (fx : D) (j : Nat) : Co.Env × Store :=
  ([some (papD p), some (.int (most : Int)), some fx, some (.dic false (KD p)), some (.cell μ.length), some (.cell (μ.length + 1)), some (.int ((cv p most o j).sp : Int)), none, none, none, none, none, none, none, none],
   μ ++ [.lst (boxL p (cv p most o j)), .lst (ndL p (cv p most o j))])
theorem cov_cond (call : Nat → List D → Store → RD) (most : Nat) (o : Option (Int × Int)) (μ : Store) (fx : D) (j : Nat) : evE P call cCond (cSt p most o μ fx j).1 (cSt p most o μ fx j).2 = .ok (.bl (decide ((cv p most o j).nd.length < (cv p most o j).bs.length))) (cSt p most o μ fx j).2 := by
  simp only [cCond, b_cover, cSt]
  simp [boxL_len, ndL_len]
theorem cov_body (h : Ok p) (n : Nat) (most : Nat) (hm : most ≤ 64) (o : Option (Int × Int)) (ho : inB p o) (μ : Store) (hμ : noClo μ = true) (fx : D) (j : Nat) (hj : (cv p most o j).nd.length < (cv p most o j).bs.length) :
    ∃ env2 μ2, evS P (run P (n + 10)) cBody (cSt p most o μ fx j).1 (cSt p most o μ fx j).2 = .ok (.nx, env2) μ2 ∧ tEnd (cSt p most o μ fx j).2 [7, 8, 9, 10, 11, 12, 13, 14] env2 μ2 = cSt p most o μ fx (j + 1) := by
  obtain ⟨i1, i2, i3⟩ := cv_inv p most o j
  have bd := cv_bnd most o ho j
  obtain ⟨q, hq⟩ : ∃ q, (cv p most o j).bs[(cv p most o j).nd.length]? = some q := ⟨_, List.getElem?_eq_getElem hj⟩
  have hqb := bd q (List.mem_of_getElem? hq)
  have hb : (boxL p (cv p most o j))[(cv p most o j).nd.length]? = some (boxD p.n0 q) := by simp [boxL, hq]
  have gr := fun (μ : Store) hμ => going_run h n μ hμ q hqb
  have rr := fun μ => ranges_run h (n + 8) μ q
  have pr := fun μ => parts_run h (n + 8) μ q (cutO p q)
  have hs : cv p most o (j + 1) = stepC p most (cv p most o j) := rfl
  have nc : ∀ a b, noClo (μ ++ [.lst a, .lst b]) = true := fun a b => by simp [hμ]
  have z1 : sz ((cv p most o j).nd.length + 1) = true := sz_of (by omega)
  have z2 : sz ((cv p most o j).bs.length + 2) = true := sz_of (by omega)
  simp only [cSt, hs, stepC, hq]
  generalize hcv : cv p most o j = s at *
  cases hg : goes p most s.sp q with
  | true =>
    have h1 : evS P (run P (n + 10)) cBody [some (papD p), some (.int (most : Int)), some fx, some (.dic false (KD p)), some (.cell μ.length), some (.cell (μ.length + 1)), some (.int (s.sp : Int)), none, none, none, none, none, none, none, none] (μ ++ [.lst (boxL p s), .lst (ndL p s)])
        = .ok (.nx, [some (papD p), some (.int (most : Int)), some fx, some (.dic false (KD p)), some (.cell μ.length), some (.cell (μ.length + 1)), some (.int (s.sp : Int)), some (boxD p.n0 q), some (.bl (kn p q).isSome), some (.lst (lgD p (kn p q))), some (.lst (dbD (kn p q))), some (if kn p q = none then parD p q else .non), none, none, none]) (μ ++ [.lst (boxL p s), .lst (ndL p ⟨s.bs, s.nd ++ [.leaf q], s.sp⟩)]) := by
      simp only [cBody, b_cover]
      cases hk : kn p q with
      | none =>
        have hg' : (most : Int) ≤ s.sp := by simpa [goes, hk] using hg
        rw [hk] at rr
        simp [boxL_len, ndL_len, atI_nat', hb, gr, nc, goD, rr, hg', z1, hk]
        simp [ndL, Nd.D, hk]
      | some b =>
        rw [hk] at rr
        simp [boxL_len, ndL_len, atI_nat', hb, gr, nc, goD, rr, z1, hk]
        simp [ndL, Nd.D, hk]
    refine ⟨_, _, h1, ?_⟩
    rw [tEnd_len (by simp)]
    simp [wipeE]
    rfl
  | false =>
    have hk : kn p q = none ∧ (s.sp : Int) < most := by
      unfold goes at hg
      cases hk : kn p q with
      | none => simpa [hk] using hg
      | some b => simp [hk] at hg
    obtain ⟨hk, hlt⟩ := hk
    have hge : ¬ (most : Int) ≤ s.sp := by omega
    have h1 : evS P (run P (n + 10)) cBody [some (papD p), some (.int (most : Int)), some fx, some (.dic false (KD p)), some (.cell μ.length), some (.cell (μ.length + 1)), some (.int (s.sp : Int)), none, none, none, none, none, none, none, none] (μ ++ [.lst (boxL p s), .lst (ndL p s)])
        = .ok (.nx, [some (papD p), some (.int (most : Int)), some fx, some (.dic false (KD p)), some (.cell μ.length), some (.cell (μ.length + 1)), some (.int ((s.sp + 1 : Nat) : Int)), some (boxD p.n0 q), some (.bl false), some (.lst (lgD p none)), some (.lst (dbD none)), some (parD p q), none, none, none]) (μ ++ [.lst (boxL p ⟨s.bs ++ [some ((spO p q).1, cutO p q), some (cutO p q + 1, (spO p q).2)], s.nd, s.sp⟩), .lst (ndL p ⟨s.bs, s.nd ++ [.spl (cutO p q) s.bs.length], s.sp + 1⟩)]) := by
      simp only [cBody, b_cover]
      simp [boxL_len, ndL_len, atI_nat', hb, gr, nc, goD, hge, z1, z2, hk, parD, cutO] at pr ⊢
      simp [pr, z1, z2, boxL_len]
      simp [ndL, boxL, Nd.D, cutO]
    refine ⟨_, _, h1, ?_⟩
    rw [tEnd_len (by simp)]
    simp [wipeE]
    exact ⟨rfl, rfl⟩
/-! ### the whole cover -/
theorem cv_end (most : Nat) (o : Option (Int × Int)) (m : Nat) (he : (cv p most o m).nd.length = (cv p most o m).bs.length) : ∀ i, cv p most o (m + i) = cv p most o m
  | 0 => rfl
  | i + 1 => by
    show stepC p most (cv p most o (m + i)) = _
    rw [cv_end most o m he i]
    unfold stepC
    rw [List.getElem?_eq_none (by omega)]
def cvF (p : Pp) (most : Nat) (o : Option (Int × Int)) : Cv := cv p most o (2 * most + 1)
theorem cvF_stop (most : Nat) (o : Option (Int × Int)) : (cvF p most o).nd.length = (cvF p most o).bs.length := by
  obtain ⟨m, h1, h2, h3⟩ := cv_stop p most o
  have := cv_end most o m h2 (2 * most + 1 - m)
  rw [show m + (2 * most + 1 - m) = 2 * most + 1 by omega] at this
  show (cv p most o (2 * most + 1)).nd.length = (cv p most o (2 * most + 1)).bs.length
  rw [this, h2]
theorem cov_loop (h : Ok p) (n : Nat) (most : Nat) (hm : most ≤ 64) (o : Option (Int × Int)) (ho : inB p o) (μ : Store) (hμ : noClo μ = true) (fx : D) :
    whileL (evE P (run P (n + 10)) cCond) (evS P (run P (n + 10)) cBody) [7, 8, 9, 10, 11, 12, 13, 14] 100000 [some (papD p), some (.int (most : Int)), some fx, some (.dic false (KD p)), some (.cell μ.length), some (.cell (μ.length + 1)), some (.int 0), none, none, none, none, none, none, none, none] (μ ++ [.lst [boxD p.n0 o], .lst []])
      = .ok (.nx, [some (papD p), some (.int (most : Int)), some fx, some (.dic false (KD p)), some (.cell μ.length), some (.cell (μ.length + 1)), some (.int ((cvF p most o).sp : Int)), none, none, none, none, none, none, none, none]) (μ ++ [.lst (boxL p (cvF p most o)), .lst (ndL p (cvF p most o))]) := by
  obtain ⟨m, h1, h2, h3⟩ := cv_stop p most o
  have hf : cvF p most o = cv p most o m := by
    have := cv_end most o m h2 (2 * most + 1 - m)
    rwa [show m + (2 * most + 1 - m) = 2 * most + 1 by omega] at this
  have hw := whileL_fn (cond := evE P (run P (n + 10)) cCond) (body := evS P (run P (n + 10)) cBody) (clr := [7, 8, 9, 10, 11, 12, 13, 14]) (cSt p most o μ fx) m 0 100000 (by omega)
    (fun j hj => by
      rw [Nat.zero_add, Nat.zero_add]
      refine ⟨?_, cov_body h n most hm o ho μ hμ fx j (h3 j hj)⟩
      rw [cov_cond, decide_eq_true (h3 j hj)])
    (by
      rw [Nat.zero_add, cov_cond, decide_eq_false (by omega)])
  rw [Nat.zero_add] at hw
  rw [hf]
  exact hw
theorem box_copy (o : Option (Int × Int)) (μ : Store) : biS μ (.dict true) [boxD p.n0 o] = .ok (boxD p.n0 o) μ := by
  cases o with
  | none => exact dict_copyF (by simp [boxD]) (by simp)
  | some s => exact dict_copyF (by simp [boxD]) (by simp)
theorem box_not (o : Option (Int × Int)) : decide (boxD p.n0 o = .non) = false := by cases o <;> rfl
def Fx (p : Pp) (fx : D) (o : Option (Int × Int)) : Prop := (fx = .non ∧ o = none) ∨ fx = boxD p.n0 o
theorem cover_run (h : Ok p) (n : Nat) (most : Nat) (hm : most ≤ 64) (o : Option (Int × Int)) (ho : inB p o) (fx : D) (hx : Fx p fx o) (μ : Store) (hμ : noClo μ = true) :
    run P (n + 11) 49 [papD p, .int (most : Int), fx] μ = .ok (.lst (ndL p (cvF p most o))) μ := by
  have kr := fun μ => kinds_run h (n + 9) μ
  have z0 : sz 0 = true := by decide
  have z1 : sz 1 = true := by decide
  have hW : ∀ c b clr env μ, evS P (run P (n + 10)) (.while c b clr) env μ = whileL (evE P (run P (n + 10)) c) (evS P (run P (n + 10)) b) clr 100000 env μ := fun _ _ _ _ _ => rfl
  rw [run_def (F := ⟨3, 15, b_cover⟩) rfl rfl]
  rcases hx with ⟨rfl, rfl⟩ | rfl
  · have hw := cov_loop h n most hm none ho μ hμ .non
    simp only [cCond, cBody, b_cover] at hw
    have e0 : boxD p.n0 none = .dic true [] := rfl
    rw [e0] at hw
    simp [b_cover, hW, kr, z0, z1] at hw ⊢
    rw [hw]
    simp
  · have hw := cov_loop h n most hm o ho (μ ++ [.lst [.dic true []]]) (by simp [hμ]) (boxD p.n0 o)
    simp only [cCond, cBody, b_cover] at hw
    simp [b_cover, hW, kr, z0, z1, box_copy, box_not, Nat.add_assoc] at hw ⊢
    rw [hw]
    simp
end K67

set_option linter.all false
set_option maxRecDepth 100000
namespace K67
open PySem L2 Co Tx
variable {p : Pp}
def lvO : Nd → Option (Option (Int × Int))
  | .leaf o => some o
  | .spl _ _ => none
def lvs (s : Cv) : List (Option (Int × Int)) := s.nd.filterMap lvO
def liveB (p : Pp) (o : Option (Int × Int)) : Bool := decide (kn p o ≠ some false)
def sizeO (p : Pp) (o : Option (Int × Int)) : Int := (spO p o).2 - (spO p o).1 + 1
theorem lvs_leaf (s : Cv) (o : Option (Int × Int)) (b : List (Option (Int × Int))) (k : Nat) : lvs ⟨b, s.nd ++ [.leaf o], k⟩ = lvs s ++ [o] := by simp [lvs, List.filterMap_append, List.filterMap_cons, lvO]
theorem lvs_spl (s : Cv) (c : Int) (a : Nat) (b : List (Option (Int × Int))) (k : Nat) : lvs ⟨b, s.nd ++ [.spl c a], k⟩ = lvs s := by simp [lvs, List.filterMap_append, List.filterMap_cons, lvO]
theorem cv_lv (most : Nat) (o : Option (Int × Int)) : ∀ j, (∀ b ∈ lvs (cv p most o j), b ∈ (cv p most o j).bs) ∧ (lvs (cv p most o j)).length + (cv p most o j).sp = (cv p most o j).nd.length
  | 0 => ⟨fun b hb => (List.not_mem_nil hb).elim, rfl⟩
  | j + 1 => by
    obtain ⟨i1, i2⟩ := cv_lv most o j
    show (∀ b ∈ lvs (stepC p most (cv p most o j)), b ∈ (stepC p most (cv p most o j)).bs) ∧ (lvs (stepC p most (cv p most o j))).length + (stepC p most (cv p most o j)).sp = (stepC p most (cv p most o j)).nd.length
    generalize cv p most o j = s at i1 i2
    unfold stepC
    cases hq : s.bs[s.nd.length]? with
    | none => exact ⟨i1, i2⟩
    | some q =>
      simp only
      split
      · rw [lvs_leaf]
        refine ⟨fun b hb => ?_, ?_⟩
        · rw [List.mem_append, List.mem_singleton] at hb
          rcases hb with hb | rfl
          · exact i1 b hb
          · exact List.mem_of_getElem? hq
        · simp only [List.length_append, List.length_singleton]
          omega
      · rw [lvs_spl]
        refine ⟨fun b hb => List.mem_append.mpr (.inl (i1 b hb)), ?_⟩
        simp only [List.length_append, List.length_singleton]
        omega
/-- just one box is live, and it is halved at each split -/
def Bis (p : Pp) (most Pw : Nat) (s : Cv) : Prop :=
  (∃ q, (lvs s).filter (liveB p) ++ (s.bs.drop s.nd.length).filter (liveB p) = [q] ∧ sizeO p q = 2 ^ (Pw - s.sp) ∧ s.sp ≤ Pw) ∧ ∀ o ∈ lvs s, kn p o = none → most ≤ s.sp
theorem drop_at {α : Type} {l : List α} {i : Nat} {a : α} (h : l[i]? = some a) : l.drop i = a :: l.drop (i + 1) := by
  have hl := lt_of_get h
  rw [List.drop_eq_getElem_cons hl]
  rw [List.getElem?_eq_getElem hl] at h
  rw [Option.some.inj h]
theorem kw_f {num : Int} {s : Int × Int} (h : ¬ (s.1 ≤ num ∧ num ≤ s.2)) : kw num s = some false := by
  unfold kw
  rw [if_neg (fun e => h ⟨by omega, by omega⟩), if_neg h]
theorem kw_nf {num : Int} {s : Int × Int} (h : s.1 ≤ num ∧ num ≤ s.2) : kw num s ≠ some false := by
  unfold kw
  rw [if_pos h]
  split <;> simp
theorem bis_all (most Pw : Nat) (o : Option (Int × Int)) (ho : inB p o) (h0 : liveB p o = true) (hs : sizeO p o = 2 ^ Pw) : ∀ j, Bis p most Pw (cv p most o j)
  | 0 => ⟨⟨o, by simp [cv, lvs, h0], by simpa [cv] using hs, Nat.zero_le _⟩, fun b hb => (List.not_mem_nil hb).elim⟩
  | j + 1 => by
    have ih := bis_all most Pw o ho h0 hs j
    have bd := cv_bnd most o ho j
    show Bis p most Pw (stepC p most (cv p most o j))
    generalize cv p most o j = s at ih bd
    unfold stepC
    cases hq : s.bs[s.nd.length]? with
    | none => exact ih
    | some q =>
      obtain ⟨⟨l, h1, h2, h3⟩, h4⟩ := ih
      rw [drop_at hq, List.filter_cons] at h1
      simp only
      by_cases hg : goes p most s.sp q = true
      · rw [if_pos hg]
        refine ⟨⟨l, ?_, h2, h3⟩, ?_⟩
        · rw [lvs_leaf]
          simp only [List.length_append, List.length_singleton]
          rw [List.filter_append, List.filter_cons, List.filter_nil, List.append_assoc]
          rw [← h1]
          by_cases hl : liveB p q = true
          · rw [if_pos hl, if_pos hl]
            rfl
          · rw [if_neg hl, if_neg hl]
            rfl
        · rw [lvs_leaf]
          intro b hb hk
          rw [List.mem_append, List.mem_singleton] at hb
          rcases hb with hb | rfl
          · exact h4 b hb hk
          · unfold goes at hg
            rw [hk] at hg
            simpa using hg
      · rw [if_neg hg]
        have hk : kn p q = none := by
          unfold goes at hg
          cases hk : kn p q with
          | none => rfl
          | some b => simp [hk] at hg
        have hlq : liveB p q = true := by simp [liveB, hk]
        obtain ⟨b1, b2, b3⟩ := bd q (List.mem_of_getElem? hq)
        obtain ⟨c0, c1, c2⟩ := kw_none_lt b2 hk
        rw [if_pos hlq] at h1
        have hfl : (lvs s).filter (liveB p) = [] ∧ q = l ∧ (s.bs.drop (s.nd.length + 1)).filter (liveB p) = [] := by
          cases hA : (lvs s).filter (liveB p) with
          | nil =>
            rw [hA, List.nil_append] at h1
            simp only [List.cons.injEq] at h1
            exact ⟨rfl, h1.1, h1.2⟩
          | cons x r =>
            rw [hA] at h1
            simp at h1
        obtain ⟨hA, rfl, hC⟩ := hfl
        have hp1 : 1 ≤ Pw - s.sp := by
          rcases Nat.eq_zero_or_pos (Pw - s.sp) with e | e
          · rw [e] at h2
            unfold sizeO at h2
            have : (2 : Int) ^ 0 = 1 := rfl
            omega
          · exact e
        obtain ⟨k, hk'⟩ : ∃ k, Pw - s.sp = k + 1 := ⟨Pw - s.sp - 1, by omega⟩
        rw [hk', Int.pow_succ] at h2
        have hsub : Pw - (s.sp + 1) = k := by omega
        unfold sizeO at h2
        generalize hH : (2 : Int) ^ k = H at h2
        have hmid : cutO p q = (spO p q).1 + H - 1 := by
          unfold cutO midZ
          omega
        have mon : ∀ b ∈ lvs s, kn p b = none → most ≤ s.sp + 1 := fun b hb hk => by have := h4 b hb hk; omega
        have la : (s.bs ++ [some ((spO p q).1, cutO p q), some (cutO p q + 1, (spO p q).2)]).drop (s.nd.length + 1) = s.bs.drop (s.nd.length + 1) ++ [some ((spO p q).1, cutO p q), some (cutO p q + 1, (spO p q).2)] := by
          rw [List.drop_append_of_le_length (by have := lt_of_get hq; omega)]
        have kA : kn p (some ((spO p q).1, cutO p q)) = kw p.num ((spO p q).1, cutO p q) := rfl
        have kB : kn p (some (cutO p q + 1, (spO p q).2)) = kw p.num (cutO p q + 1, (spO p q).2) := rfl
        by_cases hc : p.num ≤ cutO p q
        · have e1 : liveB p (some ((spO p q).1, cutO p q)) = true := by
            unfold liveB
            rw [kA]
            exact decide_eq_true (kw_nf ⟨c1, hc⟩)
          have e2 : liveB p (some (cutO p q + 1, (spO p q).2)) = false := by
            unfold liveB
            rw [kB, kw_f (by simp only; omega)]
            rfl
          refine ⟨⟨some ((spO p q).1, cutO p q), ?_, ?_, by show s.sp + 1 ≤ Pw; omega⟩, ?_⟩
          · rw [lvs_spl, hA]
            simp only [List.length_append, List.length_singleton]
            rw [la, List.filter_append, hC]
            simp [List.filter_cons, e1, e2]
          · show cutO p q - (spO p q).1 + 1 = 2 ^ (Pw - (s.sp + 1))
            rw [hsub, hH, hmid]
            omega
          · rw [lvs_spl]
            exact mon
        · have e1 : liveB p (some ((spO p q).1, cutO p q)) = false := by
            unfold liveB
            rw [kA, kw_f (by simp only; omega)]
            rfl
          have e2 : liveB p (some (cutO p q + 1, (spO p q).2)) = true := by
            unfold liveB
            rw [kB]
            exact decide_eq_true (kw_nf ⟨by simp only; omega, c2⟩)
          refine ⟨⟨some (cutO p q + 1, (spO p q).2), ?_, ?_, by show s.sp + 1 ≤ Pw; omega⟩, ?_⟩
          · rw [lvs_spl, hA]
            simp only [List.length_append, List.length_singleton]
            rw [la, List.filter_append, hC]
            simp [List.filter_cons, e1, e2]
          · show (spO p q).2 - (cutO p q + 1) + 1 = 2 ^ (Pw - (s.sp + 1))
            rw [hsub, hH, hmid]
            omega
          · rw [lvs_spl]
            exact mon
/-- what the whole cover comes to -/
theorem cvF_A (most Pw : Nat) (o : Option (Int × Int)) (ho : inB p o) (h0 : liveB p o = true) (hs : sizeO p o = 2 ^ Pw) (hm : Pw ≤ most) :
    (∃ q, (lvs (cvF p most o)).filter (liveB p) = [q] ∧ kn p q = some true) ∧ (cvF p most o).sp = Pw := by
  obtain ⟨⟨q, h1, h2, h3⟩, h4⟩ := bis_all most Pw o ho h0 hs (2 * most + 1)
  have bd := cv_bnd most o ho (2 * most + 1)
  have lv := cv_lv (p := p) most o (2 * most + 1)
  have st := cvF_stop (p := p) most o
  unfold cvF at st ⊢
  generalize cv p most o (2 * most + 1) = s at *
  rw [st, List.drop_length, List.filter_nil, List.append_nil] at h1
  have hq : q ∈ (lvs s).filter (liveB p) := by rw [h1]; exact List.mem_singleton.mpr rfl
  obtain ⟨q1, q2⟩ := List.mem_filter.mp hq
  obtain ⟨b1, b2, b3⟩ := bd q (lv.1 q q1)
  have q2 : kn p q ≠ some false := of_decide_eq_true q2
  unfold sizeO at h2
  cases hk : kn p q with
  | none =>
    obtain ⟨c0, c1, c2⟩ := kw_none_lt b2 hk
    have := h4 q q1 hk
    rw [show Pw - s.sp = 0 by omega] at h2
    have e1 : (2 : Int) ^ 0 = 1 := rfl
    omega
  | some b =>
    cases b with
    | false => exact absurd hk q2
    | true =>
      refine ⟨⟨q, h1, hk⟩, ?_⟩
      have hw : kw p.num (spO p q) = some true := hk
      unfold kw at hw
      split at hw
      · next hc =>
        rw [hc.1, hc.2] at h2
        rcases Nat.eq_zero_or_pos (Pw - s.sp) with e | e
        · omega
        · obtain ⟨k, hk'⟩ : ∃ k, Pw - s.sp = k + 1 := ⟨Pw - s.sp - 1, by omega⟩
          rw [hk', Int.pow_succ] at h2
          generalize (2 : Int) ^ k = H at h2
          omega
      · split at hw <;> cases hw
theorem cvF_B (most Pw : Nat) (o : Option (Int × Int)) (ho : inB p o) (h0 : liveB p o = true) (hs : sizeO p o = 2 ^ Pw) (hm : most < Pw) :
    (∃ q, (lvs (cvF p most o)).filter (liveB p) = [q] ∧ kn p q = none) ∧ (cvF p most o).sp = most := by
  obtain ⟨⟨q, h1, h2, h3⟩, h4⟩ := bis_all most Pw o ho h0 hs (2 * most + 1)
  have bd := cv_bnd most o ho (2 * most + 1)
  have lv := cv_lv (p := p) most o (2 * most + 1)
  have iv := cv_inv p most o (2 * most + 1)
  have st := cvF_stop (p := p) most o
  unfold cvF at st ⊢
  generalize cv p most o (2 * most + 1) = s at *
  rw [st, List.drop_length, List.filter_nil, List.append_nil] at h1
  have hq : q ∈ (lvs s).filter (liveB p) := by rw [h1]; exact List.mem_singleton.mpr rfl
  obtain ⟨q1, q2⟩ := List.mem_filter.mp hq
  have q2 : kn p q ≠ some false := of_decide_eq_true q2
  unfold sizeO at h2
  cases hk : kn p q with
  | none => exact ⟨⟨q, h1, hk⟩, by have := h4 q q1 hk; omega⟩
  | some b =>
    cases b with
    | false => exact absurd hk q2
    | true =>
      exfalso
      have hw : kw p.num (spO p q) = some true := hk
      unfold kw at hw
      split at hw
      · next hc =>
        rw [hc.1, hc.2] at h2
        obtain ⟨k, hk'⟩ : ∃ k, Pw - s.sp = k + 1 := ⟨Pw - s.sp - 1, by omega⟩
        rw [hk', Int.pow_succ] at h2
        generalize (2 : Int) ^ k = H at h2
        omega
      · split at hw <;> cases hw
theorem cvF_len (most : Nat) (o : Option (Int × Int)) : (cvF p most o).nd.length = 1 + 2 * (cvF p most o).sp ∧ (lvs (cvF p most o)).length + (cvF p most o).sp = (cvF p most o).nd.length := by
  have iv := cv_inv p most o (2 * most + 1)
  have st := cvF_stop (p := p) most o
  have lv := cv_lv (p := p) most o (2 * most + 1)
  exact ⟨st.trans iv.1, lv.2⟩
theorem lvs_bnd (most : Nat) (o : Option (Int × Int)) (ho : inB p o) : ∀ b ∈ lvs (cvF p most o), inB p b := fun b hb => cv_bnd most o ho _ b ((cv_lv most o _).1 b hb)
end K67

set_option linter.all false
set_option maxRecDepth 100000
namespace Co
open PySem L2
theorem lcL_filt {cond elt : Env → Store → RD} {tg : TGT} {stay : Store → Bool} (μ : Store) (g : D → Bool) (f : D → D) : ∀ (xs acc : List D) (env : Env), (∀ ys, stay (μ ++ [.lst ys]) = true) → acc.length + xs.length ≤ 1000000 →
    (∀ env0, ∀ x ∈ xs, env0.length = env.length → ∃ env', asgT tg x env0 = some env' ∧ env'.length = env.length ∧ ∀ ys, cond env' (μ ++ [.lst ys]) = .ok (.bl (g x)) (μ ++ [.lst ys]) ∧ elt env' (μ ++ [.lst ys]) = .ok (f x) (μ ++ [.lst ys])) →
    lcL cond elt tg stay μ.length xs env (μ ++ [.lst acc]) = .ok () (μ ++ [.lst (acc ++ (xs.filter g).map f)])
  | [], acc, env, hs, _, _ => by
    unfold lcL
    rw [if_pos (hs acc)]
    simp
  | x :: r, acc, env, hs, hl, h => by
    obtain ⟨env', h1, h0, h2⟩ := h env x List.mem_cons_self rfl
    obtain ⟨h3, h4⟩ := h2 acc
    have hz : sz (acc.length + 1) = true := sz_of (by simp at hl; omega)
    unfold lcL
    rw [if_pos (hs acc), h1]
    simp only [h3, Res.bind_ok, truth_bl, ofO_some, h4]
    have e : bmS (μ ++ [Cell.lst acc]) .append (.cell μ.length) [f x] = .ok .non (μ ++ [.lst (acc ++ [f x])]) := by
      simp [hz]
    cases hg : g x with
    | false =>
      simp only
      rw [lcL_filt μ g f r acc env hs (by simp at hl ⊢; omega) (fun env0 y hy => h env0 y (List.mem_cons_of_mem _ hy))]
      simp [hg]
    | true =>
      simp only [h4]
      rw [e]
      simp only
      rw [lcL_filt μ g f r (acc ++ [f x]) env hs (by simp at hl ⊢; omega) (fun env0 y hy => h env0 y (List.mem_cons_of_mem _ hy))]
      simp [hg]
theorem lcS_filt {cond elt : Env → Store → RD} {tg : TGT} {own : List Nat} {k : ITK} {ds xs : List D} {env : Env} {μ : Store} (g : D → Bool) (f : D → D) (hx : itemsOf μ k ds = some xs) (hs : ∀ ys, stayB μ k ds xs (μ ++ [.lst ys]) = true) (hl : xs.length ≤ 1000000)
    (h : ∀ env0, ∀ x ∈ xs, env0.length = (wipeE env own).length → ∃ env', asgT tg x env0 = some env' ∧ env'.length = (wipeE env own).length ∧ ∀ ys, cond env' (μ ++ [.lst ys]) = .ok (.bl (g x)) (μ ++ [.lst ys]) ∧ elt env' (μ ++ [.lst ys]) = .ok (f x) (μ ++ [.lst ys])) (hlt : D.lts μ.length ((xs.filter g).map f) = true) :
    lcS cond elt tg own k ds true env μ = .ok (.lst ((xs.filter g).map f)) μ := by
  unfold lcS
  rw [hx]
  simp only
  rw [lcL_filt μ g f xs [] (wipeE env own) hs (by simpa using hl) h]
  simp [thaw, leave_new, hlt]
end Co
namespace K67
open PySem L2 Co Tx
variable {p : Pp}
def isLf : D → Bool
  | .tup (.str w :: _) => w == "leaf"
  | _ => false
def lvD (p : Pp) (o : Option (Int × Int)) : D := (Nd.leaf o).D p
@[simp] theorem lvD_lt (n : Nat) (o : Option (Int × Int)) : (lvD p o).lt n = true := Nd.D_lt _ _ _
@[simp] theorem lvL_lt (n : Nat) (l : List (Option (Int × Int))) : D.lts n (l.map (lvD p)) = true := lts_map n _ _ fun _ _ => lvD_lt _ _
theorem filt_lf (s : Cv) : ((ndL p s).filter isLf).map (fun d => d) = (lvs s).map (lvD p) := by
  unfold ndL lvs
  generalize s.nd = l
  induction l with
  | nil => rfl
  | cons x r ih => cases x with
    | leaf o => simpa [List.filterMap_cons, Nd.D, isLf, lvO, lvD] using ih
    | spl c a => simpa [List.filterMap_cons, Nd.D, isLf, lvO, lvD, show (("split" : Str) == "leaf") = false by decide +kernel] using ih
theorem leaves_run (n : Nat) (s : Cv) (hs : s.nd.length ≤ 200) (μ : Store) : run P (n + 1) 62 [.lst (ndL p s)] μ = .ok (.lst ((lvs s).map (lvD p))) μ := by
  rw [run_def (F := ⟨1, 2, b_leaves_of⟩) rfl rfl]
  have hl := lcS_filt (cond := evE P (run P n) (.cmp .eq (.ix (.var 1) (.lit (.int 0))) (.lit (.str "leaf")))) (elt := evE P (run P n) (.var 1)) (tg := .nm 1) (own := [1]) (k := .seq) (ds := [.lst (ndL p s)]) (xs := ndL p s) (env := [some (.lst (ndL p s)), none]) (μ := μ) isLf (fun d => d)
    rfl (fun ys => by simp) (by rw [ndL_len]; omega)
    (fun env0 x hx h0 => by
      obtain ⟨a, b, rfl⟩ : ∃ a b, env0 = [a, b] := by
        match env0, h0 with
        | [a, b], _ => exact ⟨a, b, rfl⟩
      obtain ⟨d, hd, rfl⟩ := List.mem_map.mp hx
      refine ⟨[a, some (d.D p)], by simp, rfl, fun ys => ⟨?_, by simp⟩⟩
      have e1 : ("split" : Str) ≠ "leaf" := by decide +kernel
      cases d with
      | leaf o => simp [Nd.D, isLf]
      | spl q a => simp [Nd.D, isLf, e1])
    (by rw [filt_lf]; exact lvL_lt _ _)
  rw [filt_lf] at hl
  simp [b_leaves_of] at hl ⊢
  rw [hl]
  exact leave_len' rfl
theorem lv_ix1 (o : Option (Int × Int)) (μ : Store) : ixS μ (lvD p o) (.int 1) = .ok (.bl (kn p o).isSome) μ := rfl
theorem lv_ix2 (o : Option (Int × Int)) (μ : Store) : ixS μ (lvD p o) (.int 2) = .ok (.lst (lgD p (kn p o))) μ := rfl
theorem lv_ix3 (o : Option (Int × Int)) (μ : Store) : ixS μ (lvD p o) (.int 3) = .ok (.lst (rgD p o)) μ := rfl
theorem lv_ix4 (o : Option (Int × Int)) (μ : Store) : ixS μ (lvD p o) (.int 4) = .ok (.lst (dbD (kn p o))) μ := rfl
/-! ### none comes -/
def allW (p : Pp) (s : Cv) : Bool := (lvs s).all fun o => (kn p o).isSome
def noneD (p : Pp) (s : Cv) : D := .tup [.str (if allW p s then "shut" else "unknown"), .lst (ndL p s)]
@[simp] theorem noneD_lt (n : Nat) (s : Cv) : (noneD p s).lt n = true := by simp [noneD]
def nBody : CS := match b_none_comes with
  | .seq (.for _ _ _ b _) _ => b
  | _ => .skip
theorem none_loop (n : Nat) (L : D) (μ : Store) : ∀ ls : List (Option (Int × Int)),
    (if ls.all fun o => (kn p o).isSome then forL (evS P (run P n) nBody) (.nm 1) tt [1] (ls.map (lvD p)) [some L, none] μ = .ok (.nx, [some L, none]) μ
     else ∃ env', forL (evS P (run P n) nBody) (.nm 1) tt [1] (ls.map (lvD p)) [some L, none] μ = .ok (.rt (.tup [.str "unknown", L]), env') μ)
  | [] => by simp
  | o :: r => by
    have ih := none_loop n L μ r
    have e1 := lv_ix1 (p := p) o
    rw [List.all_cons]
    cases hk : (kn p o).isSome with
    | false =>
      rw [hk] at e1
      refine ⟨[some L, some (lvD p o)], ?_⟩
      simp [nBody, b_none_comes, e1]
    | true =>
      rw [hk] at e1
      rw [Bool.true_and, List.map_cons]
      have e : forL (evS P (run P n) nBody) (.nm 1) tt [1] (lvD p o :: r.map (lvD p)) [some L, none] μ = forL (evS P (run P n) nBody) (.nm 1) tt [1] (r.map (lvD p)) [some L, none] μ := by
        rw [forL_cons]
        simp only [nBody, b_none_comes]
        simp [e1]
      rw [e]
      exact ih
theorem none_run (n : Nat) (s : Cv) (hs : s.nd.length ≤ 200) (μ : Store) : run P (n + 2) 65 [.lst (ndL p s)] μ = .ok (noneD p s) μ := by
  have lr := leaves_run (p := p) n s hs μ
  have nl := none_loop (p := p) (n + 1) (.lst (ndL p s)) μ (lvs s)
  rw [run_def (F := ⟨1, 2, b_none_comes⟩) rfl rfl]
  unfold noneD allW
  split at nl
  · next hw =>
    rw [if_pos hw]
    simp only [nBody, b_none_comes] at nl
    simp [b_none_comes, lr, nl]
  · next hw =>
    rw [if_neg hw]
    obtain ⟨env', nl⟩ := nl
    simp only [nBody, b_none_comes] at nl
    simp [b_none_comes, lr, nl]
/-! ### rows -/
def rowA (p : Pp) : D := .tup [.str p.n0, .str "", .int p.num]
def rowB (p : Pp) : D := .tup [.str p.n1, .str "", .bl false]
@[simp] theorem rowA_lt (n : Nat) : (rowA p).lt n = true := by simp [rowA]
@[simp] theorem rowB_lt (n : Nat) : (rowB p).lt n = true := by simp [rowB]
def rowsN (p : Pp) (k : Nat) : List D := [rowA p, rowB p].take k
theorem kn_true {o : Option (Int × Int)} (hk : kn p o = some true) : spO p o = (p.num, p.num) := by
  have hw : kw p.num (spO p o) = some true := hk
  unfold kw at hw
  split at hw
  · next hc => exact Prod.ext hc.1 hc.2
  · split at hw <;> cases hw
/-- what may be kept: nothing, or the number itself -/
def Kept (p : Pp) (d : D) : Prop := d = .dic true [] ∨ d = .dic true [(ky p.n0, .int p.num)]
theorem row_run (h : Ok p) (n : Nat) (o : Option (Int × Int)) (hk : kn p o = some true) (kp : D) (hkp : Kept p kp) (k : Nat) (h1 : k = 1 ∨ k = 2) (μ : Store) : run P (n + 2) 64 [papD p, lvD p o, .int (k : Int), kp] μ = .ok (.lst (rowsN p k)) μ := by
  have kr := fun μ => kinds_run h n μ
  have er := fun μ => eaches_run h n μ
  have e3 := lv_ix3 (p := p) o
  have hs := kn_true hk
  have hr : rgD p o = [rgR p.n0 (p.num, p.num), rgR p.n1 (0, 1)] := by
    unfold rgD
    rw [hs, if_pos hk]
  rw [hr] at e3
  have sl : ∀ (μ : Store) (k : Nat), slS μ (.lst [rgR p.n0 (p.num, p.num), rgR p.n1 (0, 1)]) none (some (k : Int)) = .ok (.lst ([rgR p.n0 (p.num, p.num), rgR p.n1 (0, 1)].take k)) μ := fun μ k => by
    rw [← cutD_take]
    rfl
  have w0 : ∀ (n : Nat) (v : Int) (μ : Store), run P (n + 1) 11 [obW p, .int v] μ = .ok (.int v) μ := fun n v μ => by
    rw [run_def (F := ⟨2, 2, b_Whole_sample⟩) rfl rfl]
    simp [b_Whole_sample]
  have w1 : ∀ (n : Nat) (μ : Store), run P (n + 1) 8 [obY, .int 0] μ = .ok (.bl false) μ := fun n μ => by
    rw [run_def (F := ⟨2, 2, b_YesNo_sample⟩) rfl rfl]
    simp [b_YesNo_sample]
  have k0 : kfind (KD p) (.str p.n0) = some (obW p) := by simp [KD, kfind]
  have k1 : kfind (KD p) (.str p.n1) = some obY := by simp [KD, kfind, h.h01]
  have d0 : kfind (ED p) (.str p.n0) = some .non := by simp [ED, kfind]
  have d1 : kfind (ED p) (.str p.n1) = some .non := by simp [ED, kfind, h.h01]
  have m0 : ∀ μ : Store, methOf P μ 19 (obW p) = some 11 := fun μ => rfl
  have m1 : ∀ μ : Store, methOf P μ 19 obY = some 8 := fun μ => rfl
  have s1 : sz 1 = true := by decide
  have s2 : sz 2 = true := by decide
  have hn := h.h01
  rw [run_def (F := ⟨4, 14, b_row_by⟩) rfl rfl]
  rcases hkp with rfl | rfl
  · rcases h1 with rfl | rfl
    · have sl := fun μ => sl μ 1
      simp only [rgR, List.take_succ_cons, List.take_zero, Int.ofNat_one, Int.cast_ofNat_Int] at sl e3
      simp [b_row_by, kr, er, e3, sl, ixS_dic, k0, k1, d0, d1, m0, m1, w0, w1, kput1, kput1b hn, s1, s2, rowsN, rowA, rowB]
    · have sl := fun μ => sl μ 2
      simp only [rgR, List.take_succ_cons, List.take_zero, Int.cast_ofNat_Int] at sl e3
      simp [b_row_by, kr, er, e3, sl, ixS_dic, k0, k1, d0, d1, m0, m1, w0, w1, kput1, kput1b hn, s1, s2, rowsN, rowA, rowB]
  · rcases h1 with rfl | rfl
    · have sl := fun μ => sl μ 1
      simp only [rgR, List.take_succ_cons, List.take_zero, Int.ofNat_one, Int.cast_ofNat_Int, ky] at sl e3 ⊢
      simp [b_row_by, kr, er, e3, sl, ixS_dic, k0, k1, d0, d1, m0, m1, w0, w1, kput1, kput1b hn, s1, s2, rowsN, rowA, rowB, kfind, hn]
    · have sl := fun μ => sl μ 2
      simp only [rgR, List.take_succ_cons, List.take_zero, Int.cast_ofNat_Int, ky] at sl e3 ⊢
      simp [b_row_by, kr, er, e3, sl, ixS_dic, k0, k1, d0, d1, m0, m1, w0, w1, kput1, kput1b hn, s1, s2, rowsN, rowA, rowB, kfind, hn]
end K67

set_option linter.all false
set_option maxRecDepth 100000
namespace K67
open PySem L2 Co Tx
variable {p : Pp}
def fstO (p : Pp) (ls : List (Option (Int × Int))) : Option (Option (Int × Int)) := ls.find? fun o => decide (kn p o = some true)
theorem first_loop {B : Co.Env → Store → RS} {tg : TGT} {clr : List Nat} {E : Co.Env} {E1 : Option (Int × Int) → Co.Env} {μ : Store} {R : D} (ha : ∀ o, asgT tg (lvD p o) E = some (E1 o))
    (hT : ∀ o, kn p o = some true → ∃ env', B (E1 o) μ = .ok (.rt R, env') μ) (hF : ∀ o, kn p o ≠ some true → ∃ env', B (E1 o) μ = .ok (.nx, env') μ ∧ wipeE env' clr = E) :
    ∀ ls : List (Option (Int × Int)), if (fstO p ls).isSome then ∃ env', forL B tg tt clr (ls.map (lvD p)) E μ = .ok (.rt R, env') μ else forL B tg tt clr (ls.map (lvD p)) E μ = .ok (.nx, E) μ
  | [] => by
    show forL B tg tt clr [] E μ = _
    rw [forL_nil]
  | o :: r => by
    have ih := first_loop ha hT hF r
    unfold fstO at ih ⊢
    rw [List.find?_cons, List.map_cons, forL_cons, ha, kFor2_some]
    by_cases hk : kn p o = some true
    · rw [decide_eq_true hk]
      obtain ⟨env', h1⟩ := hT o hk
      rw [h1]
      exact ⟨env', rfl⟩
    · rw [decide_eq_false hk]
      obtain ⟨env', h1, h2⟩ := hF o hk
      rw [h1, kTurn_nx, turnEnd_len rfl rfl, h2]
      exact ih
/-- what a looker tells: the row, or that none comes -/
def lookD (p : Pp) (most : Nat) (o : Option (Int × Int)) (row : List D) : D := if (fstO p (lvs (cvF p most o))).isSome then .tup [.str "row", .lst row] else noneD p (cvF p most o)
@[simp] theorem rowsN_lt (n k : Nat) : D.lts n (rowsN p k) = true := lts_take' k (by simp)
theorem bi_int_bl (μ : Store) (b : Bool) : biS μ .int [.bl b] = .ok (.int (b2n b)) μ := rfl
theorem in0 (h : Ok p) : inB p none := ⟨Int.le_refl _, by have := h.hl; have := h.hh; show p.lo ≤ p.hi; omega, Int.le_refl _⟩
theorem cvF_200 (most : Nat) (hm : most ≤ 64) (o : Option (Int × Int)) : (cvF p most o).nd.length ≤ 200 := by
  have := (cvF_len (p := p) most o).1
  have := (cv_inv p most o (2 * most + 1)).2.1
  unfold cvF at *
  omega
def fBody : CS := match b_first_row with
  | .seq _ (.seq (.for _ _ _ b _) _) => b
  | _ => .skip
/-- which rows of a log are looked for -/
def Wnt (p : Pp) (w x : Str) (k : Nat) : Prop := (w = "ask" ∧ x = p.n1 ∧ k = 1) ∨ (w = "pass" ∧ x = p.n2 ∧ k = 2)
theorem first_row_run (h : Ok p) (n most : Nat) (hm : most ≤ 64) (w x : Str) (k : Nat) (hw : Wnt p w x k) (μ : Store) (hμ : noClo μ = true) :
    run P (n + 12) 66 [papD p, .int (most : Int), .str w, .str x] μ = .ok (lookD p most none (rowsN p k)) μ := by
  have cr := cover_run h n most hm none (in0 h) .non (.inl ⟨rfl, rfl⟩) μ hμ
  have lr := leaves_run (p := p) (n + 10) (cvF p most none) (cvF_200 most hm none) μ
  have nr := none_run (p := p) (n + 9) (cvF p most none) (cvF_200 most hm none) μ
  have e0 : ¬ (("end" : Str) = "ask") := by decide +kernel
  have e1 : ¬ (("pass" : Str) = "ask") := by decide +kernel
  have e2 : ¬ (("held" : Str) = "ask") := by decide +kernel
  have e3 : ¬ (("ask" : Str) = "pass") := by decide +kernel
  have e4 : ¬ (("held" : Str) = "pass") := by decide +kernel
  have e5 : ¬ (("end" : Str) = "pass") := by decide +kernel
  have h1 := h.h01
  have h2 := h.h02
  have h3 := h.h12
  have bi := bi_int_bl
  have fl := first_loop (p := p) (B := evS P (run P (n + 11)) fBody) (tg := .nm 5) (clr := [5, 6, 7]) (E := [some (papD p), some (.int (most : Int)), some (.str w), some (.str x), some (.lst (ndL p (cvF p most none))), none, none, none])
    (E1 := fun o => [some (papD p), some (.int (most : Int)), some (.str w), some (.str x), some (.lst (ndL p (cvF p most none))), some (lvD p o), none, none]) (μ := μ) (R := .tup [.str "row", .lst (rowsN p k)]) (fun o => rfl)
    (fun o hk => by
      have x2 := lv_ix2 (p := p) o
      have rr := row_run h (n + 9) o hk (.dic true []) (.inl rfl)
      rw [hk] at x2
      simp only [fBody, b_first_row]
      rcases hw with ⟨rfl, rfl, rfl⟩ | ⟨rfl, rfl, rfl⟩
      · have rr := rr 1 (.inl rfl)
        simp only [Int.ofNat_one, Int.cast_ofNat_Int] at rr
        refine ⟨[some (papD p), some (.int (most : Int)), some (.str "ask"), some (.str p.n1), some (.lst (ndL p (cvF p most none))), some (lvD p o), some (.int 1), some (lgR "ask" p.n1)], ?_⟩
        simp [x2, lgD, lgR, h1, bi, b2n]
        simp [rr]
      · have rr := rr 2 (.inr rfl)
        simp only [Int.cast_ofNat_Int] at rr
        refine ⟨[some (papD p), some (.int (most : Int)), some (.str "pass"), some (.str p.n2), some (.lst (ndL p (cvF p most none))), some (lvD p o), some (.int 2), some (lgR "pass" p.n2)], ?_⟩
        simp [x2, lgD, lgR, h1, bi, b2n, e3]
        simp [rr])
    (fun o hk => by
      have x2 := lv_ix2 (p := p) o
      simp only [fBody, b_first_row]
      refine ⟨[some (papD p), some (.int (most : Int)), some (.str w), some (.str x), some (.lst (ndL p (cvF p most none))), some (lvD p o), some (.int 1), none], ?_, rfl⟩
      cases hk2 : kn p o with
      | none =>
        rw [hk2] at x2
        rcases hw with ⟨rfl, rfl, rfl⟩ | ⟨rfl, rfl, rfl⟩
        · simp [x2, lgD, lgR, h1, bi, b2n]
        · simp [x2, lgD, lgR, h1, bi, b2n, e3]
      | some b =>
        cases b with
        | true => exact absurd hk2 hk
        | false =>
          rw [hk2] at x2
          rcases hw with ⟨rfl, rfl, rfl⟩ | ⟨rfl, rfl, rfl⟩
          · simp [x2, lgD, lgR, h1, bi, b2n, e2]
          · simp [x2, lgD, lgR, h1, bi, b2n, e3, e4, e2])
    (lvs (cvF p most none))
  rw [run_def (F := ⟨4, 8, b_first_row⟩) rfl rfl]
  unfold lookD
  split at fl
  · next hf =>
    rw [if_pos hf]
    obtain ⟨env', fl⟩ := fl
    simp only [fBody, b_first_row] at fl
    simp [b_first_row, cr, lr] at fl ⊢
    rw [fl]
    simp
  · next hf =>
    rw [if_neg hf]
    simp only [fBody, b_first_row] at fl
    simp [b_first_row, cr, lr] at fl ⊢
    rw [fl]
    simp [nr]
theorem lookD_lt (n most : Nat) (o : Option (Int × Int)) (k : Nat) : (lookD p most o (rowsN p k)).lt n = true := by
  unfold lookD
  split <;> simp
theorem come_run (h : Ok p) (n most : Nat) (hm : most ≤ 64) (μ : Store) (hμ : noClo μ = true) : run P (n + 13) 67 [papD p, .str p.n1, .int (most : Int)] μ = .ok (lookD p most none (rowsN p 1)) μ := by
  have fr := first_row_run h n most hm "ask" p.n1 1 (.inl ⟨rfl, rfl, rfl⟩) μ hμ
  rw [run_def (F := ⟨3, 3, b_come_to⟩) rfl rfl]
  simp [b_come_to, fr]
theorem met_run (h : Ok p) (n most : Nat) (hm : most ≤ 64) (μ : Store) (hμ : noClo μ = true) : run P (n + 13) 68 [papD p, .str p.n2, .int (most : Int)] μ = .ok (lookD p most none (rowsN p 2)) μ := by
  have fr := first_row_run h n most hm "pass" p.n2 2 (.inr ⟨rfl, rfl, rfl⟩) μ hμ
  rw [run_def (F := ⟨3, 3, b_met⟩) rfl rfl]
  simp [b_met, fr]
end K67

set_option linter.all false
set_option maxRecDepth 100000
namespace Co
open PySem L2
@[simp] theorem bmTy_pop_v {μ : Store} {i : Nat} : bmTy μ .pop (.cell i) = (cL μ[i]?).isSome := by simp [bmTy]
def kPop (i : Nat) (j : Int) (μ : Store) : Option Cell → RD
  | some (.lst (x :: r)) => if j = 0 then .ok x (μ.set i (.lst r)) else .bad
  | _ => .bad
theorem pop_v {μ : Store} {i : Nat} {x : D} {r : List D} (h : μ[i]? = some (.lst (x :: r))) : bmS μ .pop (.cell i) [.int 0] = .ok x (μ.set i (.lst r)) := by
  simp [bmS, h]
end Co
namespace K67
open PySem L2 Co Tx
variable {p : Pp}
def AH (p : Pp) : List (D × D) := [(.str p.n0, .bl true), (.str p.n1, .bl true), (.str p.n2, .bl true)]
@[simp] theorem AH_lt (n : Nat) : D.ltp n (AH p) = true := by simp [AH]
def twCond : CE := match b_two_ways with
  | .seq _ (.seq _ (.seq (.while c _ _) _)) => c
  | _ => .unk
def twWhile : CS := match b_two_ways with
  | .seq _ (.seq _ (.seq (.while _ b _) _)) => b
  | _ => .skip
def twBody : CS := match b_two_ways with
  | .seq _ (.seq _ (.seq _ (.seq _ (.seq (.for _ _ _ b _) _)))) => b
  | _ => .skip
def twSt (p : Pp) (most : Nat) (μ : Store) (j : Nat) : Co.Env × Store :=
  if j = 0 then ([some (papD p), some (.str "only"), some (.int (most : Int)), some (.cell μ.length), some (.cell (μ.length + 1)), none, none, none, none, none, none], μ ++ [.dic false [], .lst [shtD p]])
  else ([some (papD p), some (.str "only"), some (.int (most : Int)), some (.cell μ.length), some (.cell (μ.length + 2)), none, none, none, none, none, none], μ ++ [.dic false (AH p), .lst [], .lst []])
theorem tw_loop (h : Ok p) (call : Nat → List D → Store → RD) (most : Nat) (μ : Store) : whileL (evE P call twCond) (evS P call twWhile) [5, 6] 100000 (twSt p most μ 0).1 (twSt p most μ 0).2 = .ok (.nx, (twSt p most μ 1).1) (twSt p most μ 1).2 := by
  have z0 : sz 0 = true := by decide
  have s1 : sz 1 = true := by decide
  have s2 : sz 2 = true := by decide
  have s3 : sz 3 = true := by decide
  have hw := whileL_fn (cond := evE P call twCond) (body := evS P call twWhile) (clr := [5, 6]) (twSt p most μ) 1 0 100000 (by omega)
    (fun j hj => by
      obtain rfl : j = 0 := by omega
      refine ⟨?_, [some (papD p), some (.str "only"), some (.int (most : Int)), some (.cell μ.length), some (.cell (μ.length + 2)), some (shtD p), none, none, none, none, none], μ ++ [.dic false (AH p), .lst [], .lst []], ?_, ?_⟩
      · simp only [twCond, b_two_ways, twSt]
        simp [eqS_nil]
      · simp only [twWhile, b_two_ways, twSt, shtD, row0, row1, row2]
        simp [bmS, fget, kput1, kput1b h.h01, kput2b h.h02 h.h12, s1, s2, s3, z0, AH]
      · simp only [twSt]
        simp [tEnd, wipeE])
    (by
      simp only [twCond, b_two_ways, twSt]
      simp [eqS_nil])
  rw [Nat.zero_add] at hw
  exact hw
theorem in_only (b : Option Bool) (μ : Store) : inS μ (.str "only") (.lst (dbD b)) = some (decide (b = some true)) := by
  cases b with
  | none => rfl
  | some b => cases b <;> rfl
theorem two_run (h : Ok p) (n most : Nat) (hm : most ≤ 64) (μ : Store) (hμ : noClo μ = true) : run P (n + 13) 69 [papD p, .str "only", .int (most : Int)] μ = .ok (lookD p most none (rowsN p 2)) μ := by
  have hn : noClo (μ ++ [.dic false (AH p), .lst [], .lst []]) = true := by simp [hμ]
  have cr := cover_run h (n + 1) most hm none (in0 h) .non (.inl ⟨rfl, rfl⟩) _ hn
  have lr := leaves_run (p := p) (n + 11) (cvF p most none) (cvF_200 most hm none) (μ ++ [.dic false (AH p), .lst [], .lst []])
  have nr := none_run (p := p) (n + 10) (cvF p most none) (cvF_200 most hm none) (μ ++ [.dic false (AH p), .lst [], .lst []])
  have tl := tw_loop h (run P (n + 12)) most μ
  have hW : ∀ c b clr env μ, evS P (run P (n + 12)) (.while c b clr) env μ = whileL (evE P (run P (n + 12)) c) (evS P (run P (n + 12)) b) clr 100000 env μ := fun _ _ _ _ _ => rfl
  have h1 := h.h01
  have hf : ∀ μ : Store, fldS P.fok μ (insOf μ (papD p)) 10 = .ok (.lst [shtD p]) μ := fun μ => by simp [papD, fget]
  have a0 : kfind (AH p) (.str p.n0) = some (.bl true) := by simp [AH, kfind]
  have a1 : kfind (AH p) (.str p.n1) = some (.bl true) := by simp [AH, kfind, h1]
  let E1 : Option (Int × Int) → Co.Env := fun o => [some (papD p), some (.str "only"), some (.int (most : Int)), some (.cell μ.length), some (.cell (μ.length + 2)), none, none, some (.lst (ndL p (cvF p most none))), some (lvD p o), none, none]
  have fl := first_loop (p := p) (B := evS P (run P (n + 12)) twBody) (tg := .nm 8) (clr := [8, 9]) (E := [some (papD p), some (.str "only"), some (.int (most : Int)), some (.cell μ.length), some (.cell (μ.length + 2)), none, none, some (.lst (ndL p (cvF p most none))), none, none, none])
    (E1 := E1) (μ := μ ++ [.dic false (AH p), .lst [], .lst []]) (R := .tup [.str "row", .lst (rowsN p 2)]) (fun o => rfl)
    (fun o hk => by
      have x3 := lv_ix3 (p := p) o
      have x4 := lv_ix4 (p := p) o
      have io := in_only (some true)
      have rr := fun μ => row_run h (n + 10) o hk (.dic true []) (.inl rfl) 2 (.inr rfl) μ
      have hr : rgD p o = [rgR p.n0 (p.num, p.num), rgR p.n1 (0, 1)] := by
        unfold rgD
        rw [kn_true hk, if_pos hk]
      rw [hk] at x4
      rw [hr] at x3
      have lc : ∀ (e0 e1 e2 e4 e5 e6 e7 e8 e9 e10 : Option D), lcS (evE P (run P (n + 12)) (.cmp .isin (.ix (.var 10) (.lit (.int 0))) (.var 3))) (evE P (run P (n + 12)) (.var 10)) (.nm 10) [10] .seq [.lst [rgR p.n0 (p.num, p.num), rgR p.n1 (0, 1)]] true [e0, e1, e2, some (.cell μ.length), e4, e5, e6, e7, e8, e9, e10] (μ ++ [.dic false (AH p), .lst [], .lst []]) = .ok (.lst [rgR p.n0 (p.num, p.num), rgR p.n1 (0, 1)]) (μ ++ [.dic false (AH p), .lst [], .lst []]) := fun e0 e1 e2 e4 e5 e6 e7 e8 e9 e10 => by
        have := lcS_map (cond := evE P (run P (n + 12)) (.cmp .isin (.ix (.var 10) (.lit (.int 0))) (.var 3))) (elt := evE P (run P (n + 12)) (.var 10)) (tg := .nm 10) (own := [10]) (k := .seq) (ds := [.lst [rgR p.n0 (p.num, p.num), rgR p.n1 (0, 1)]]) (xs := [rgR p.n0 (p.num, p.num), rgR p.n1 (0, 1)]) (env := [e0, e1, e2, some (.cell μ.length), e4, e5, e6, e7, e8, e9, e10]) (μ := μ ++ [.dic false (AH p), .lst [], .lst []]) (fun d => d) rfl (fun ys => by simp) (by simp)
          (fun x hx => by
            simp only [List.mem_cons, List.not_mem_nil, or_false] at hx
            refine ⟨[e0, e1, e2, some (.cell μ.length), e4, e5, e6, e7, e8, e9, some x], by simp [wipeE], fun ys => ⟨?_, by simp⟩⟩
            rcases hx with rfl | rfl
            · simp [rgR, a0]
            · simp [rgR, a1]) (by simp)
        simpa using this
      refine ⟨[some (papD p), some (.str "only"), some (.int (most : Int)), some (.cell μ.length), some (.cell (μ.length + 2)), none, none, some (.lst (ndL p (cvF p most none))), some (lvD p o), some (.int 2), none], ?_⟩
      simp only [twBody, b_two_ways, E1]
      simp only [Int.cast_ofNat_Int] at rr
      simp [x3, x4, io, lc, rr])
    (fun o hk => by
      have x4 := lv_ix4 (p := p) o
      have io := in_only (kn p o)
      refine ⟨E1 o, ?_, rfl⟩
      simp only [twBody, b_two_ways, E1]
      simp [x4, io, hk])
    (lvs (cvF p most none))
  have z1 : sz 1 = true := by decide
  have bl : ∀ (μ : Store) l, biS μ (.list false) [.lst l] = .ok (.cell μ.length) (μ ++ [.lst l]) := fun _ _ => rfl
  rw [run_def (F := ⟨3, 11, b_two_ways⟩) rfl rfl]
  unfold lookD
  simp only [twCond, twWhile, b_two_ways, twSt, if_true, show ¬ ((1 : Nat) = 0) by omega, if_false] at tl
  simp only [twBody, b_two_ways] at fl
  have cr : run P (n + 12) 49 [papD p, .int (most : Int), .non] (μ ++ [.dic false (AH p), .lst [], .lst []]) = .ok (.lst (ndL p (cvF p most none))) (μ ++ [.dic false (AH p), .lst [], .lst []]) := cr
  split at fl
  · next hg =>
    rw [if_pos hg]
    obtain ⟨env', fl⟩ := fl
    simp [b_two_ways, hW, hf, z1, bl] at tl fl ⊢
    rw [tl]
    simp [cr, lr]
    rw [fl]
    simp
  · next hg =>
    rw [if_neg hg]
    simp [b_two_ways, hW, hf, z1, bl] at tl fl ⊢
    rw [tl]
    simp [cr, lr]
    rw [fl]
    simp [nr]
end K67

set_option linter.all false
set_option maxRecDepth 100000
namespace K67
open PySem L2 Co Tx
variable {p : Pp}
/-! ### the worth of the sum -/
def vB (v : Int) : Prop := -(2 ^ 100) ≤ v ∧ v ≤ 2 ^ 100
theorem worth_run (n : Nat) (v : Int) (hv : vB v) (f : Nat) (cs : List D) (μ : Store) (hc : cloS (run P n) μ.length [.str p.n0] (μ ++ [.clo f cs]) = .ok (.int v) (μ ++ [.clo f cs])) :
    run P (n + 1) 50 [.lst [.tup [.int 1, .str p.n0]], .cell μ.length] (μ ++ [.clo f cs]) = .ok (.int v) (μ ++ [.clo f cs]) := by
  obtain ⟨v1, v2⟩ := hv
  have mb : mulB 1 v = true := mulB_s (by omega) (by omega) (by omega) (by omega)
  rw [run_def (F := ⟨2, 5, b_worth⟩) rfl rfl]
  simp [b_worth, hc, binS_mul _ _ _ mb]
theorem reckon_run (h : Ok p) (n : Nat) (v : Int) (hv : vB v) (ct : D) (μ : Store) (hμ : noClo μ = true) (hg : ∀ t, bmS (μ ++ t) .get ct [.str p.n0, .int 0] = .ok (.int v) (μ ++ t)) (hty : ∀ t, bmTy (μ ++ t) .get ct = true) :
    run P (n + 3) 51 [.dic false (TD p), ct, .cell μ.length, .str p.n3] (μ ++ [.dic false []]) = .ok .non (μ ++ [.dic false [(.str p.n0, .int v), (.str p.n3, .int v)]]) := by
  have h1 := h.h03
  have h1' : ¬ p.n3 = p.n0 := fun e => h1 e.symm
  have s1 : sz 1 = true := by decide
  have s2 : sz 2 = true := by decide
  have nc : noClo (μ ++ [.dic false [(.str p.n0, .int v)]]) = true := by simp [hμ]
  have cl : cloS (run P (n + 1)) (List.length (μ ++ [Cell.dic false [(D.str p.n0, D.int v)]])) [.str p.n0] ((μ ++ [.dic false [(.str p.n0, .int v)]]) ++ [.clo 80 [.cell μ.length]]) = .ok (.int v) ((μ ++ [.dic false [(.str p.n0, .int v)]]) ++ [.clo 80 [.cell μ.length]]) := by
    refine cloS_last nc ?_
    rw [run_def (F := ⟨2, 2, b_lam2⟩) rfl rfl]
    simp [b_lam2, e_lam2, kfind]
  have wr := lamS_pure nc (worth_run (p := p) (n + 1) v hv 80 [.cell μ.length] _ cl) rfl
  have hg := hg [.dic false []]
  have hty := hty [.dic false []]
  rw [run_def (F := ⟨4, 6, b_reckon⟩) rfl rfl]
  simp [b_reckon, TD, ixS_dic, kfind, h1, h1', s1, s2, kput1, hg, hty, wr, kput1b h1]
theorem total_run (h : Ok p) (n : Nat) (v : Int) (hv : vB v) (ct : D) (μ : Store) (hμ : noClo μ = true) (hg : ∀ t, bmS (μ ++ t) .get ct [.str p.n0, .int 0] = .ok (.int v) (μ ++ t)) (hty : ∀ t, bmTy (μ ++ t) .get ct = true) :
    run P (n + 4) 52 [.dic false (TD p), ct, .str p.n3] μ = .ok (.int v) μ := by
  have rr := reckon_run h n v hv ct μ hμ hg hty
  have h1 := h.h03
  rw [run_def (F := ⟨3, 4, b_total_of⟩) rfl rfl]
  simp [b_total_of, rr, kfind, h1]
end K67

set_option linter.all false
set_option maxRecDepth 100000
namespace K67
open PySem L2 Co Tx
variable {p : Pp}
/-! ### the straight going -/
def WF (p : Pp) (L b : Nat) : List (Nat × D) := [(17, .dic false (KD p)), (11, .dic false (TD p)), (25, .cell b), (20, .cell (L + 1)), (26, .cell (L + 2)), (27, .cell (L + 3))]
def WS (p : Pp) (L b : Nat) (lg : List D) (rk ty : List (D × D)) (t : Store) : Store := .ins 13 (WF p L b) :: .lst lg :: .dic true rk :: .dic false ty :: t
def kz (x : Str) : D := .tup [.str x, .str ""]
theorem walk_init (h : Ok p) (n : Nat) (b : Nat) (μ : Store) (hb : b < μ.length) : run P (n + 2) 53 [.cell μ.length, papD p, .cell b] (μ ++ [.ins 13 []]) = .ok .non (μ ++ WS p μ.length b [] [] [] []) := by
  have kr := fun μ => kinds_run h n μ
  have td := tot_dict (p := p)
  have hf : ∀ μ : Store, fldS P.fok μ (insOf μ (papD p)) 11 = .ok (.lst (totL p)) μ := fun μ => by simp [papD, fget]
  have z0 : sz 0 = true := by decide
  rw [run_def (F := ⟨3, 3, b_Walk___init__⟩) rfl rfl]
  simp [b_Walk___init__, kr, td, hf, fput, fget, WS, WF]
  exact leave_stay (by simp)
section
variable (h : Ok p) (n : Nat) (μ : Store) (hμ : noClo μ = true) (b : Nat)
theorem noClo_WS (L : Nat) (lg : List D) (rk ty : List (D × D)) (t : Store) : noClo (WS p L b lg rk ty t) = noClo t := by simp [WS]
include h hμ in
theorem wlook_run (v : Int) (hv : vB v) (lg : List D) (rk : List (D × D)) (t : Store) (ht : noClo t = true) : run P (n + 5) 54 [.cell μ.length, .str p.n3, .str ""] (μ ++ WS p μ.length b lg rk [(.str p.n0, .int v)] t) = .ok (.int v) (μ ++ WS p μ.length b lg rk [(.str p.n0, .int v)] t) := by
  have tr := total_run h n v hv (.cell (μ.length + 3)) (μ ++ WS p μ.length b lg rk [(.str p.n0, .int v)] t) (by simp [noClo_WS, hμ, ht])
    (fun t2 => by simp [WS, kfind])
    (fun t2 => by simp [WS])
  have kT : kfind (TD p) (.str p.n3) = some (.lst [.tup [.int 1, .str p.n0]]) := by simp [TD, kfind]
  rw [run_def (F := ⟨3, 4, b_Walk_look⟩) rfl rfl]
  simp only [WS, WF] at tr ⊢
  simp [b_Walk_look, fget, kT, tr]
theorem wagree_non (n : Nat) (c : Nat) (k : D) (μ : Store) : run P (n + 1) 55 [.cell c, .non, k] μ = .ok (.bl true) μ := by
  rw [run_def (F := ⟨3, 3, b_Walk_agreed⟩) rfl rfl]
  simp [b_Walk_agreed]
include h hμ in
theorem wagree_run (v : Int) (hv : vB v) (lg : List D) (rk : List (D × D)) : run P (n + 9) 55 [.cell μ.length, syD p, .str ""] (μ ++ WS p μ.length b lg rk [(.str p.n0, .int v)] []) = .ok (.bl (decide (v = p.num))) (μ ++ WS p μ.length b lg rk [(.str p.n0, .int v)] []) := by
  have st := set_run h (n + 6) (μ ++ WS p μ.length b lg rk [(.str p.n0, .int v)] [])
  have nc : noClo (μ ++ WS p μ.length b lg rk [(.str p.n0, .int v)] []) = true := by simp [noClo_WS, hμ]
  have wl := wlook_run h (n + 1) μ hμ b v hv lg rk [.dead] rfl
  have cl : cloS (run P (n + 7)) (List.length (μ ++ WS p μ.length b lg rk [(.str p.n0, .int v)] [])) [.str p.n3] ((μ ++ WS p μ.length b lg rk [(.str p.n0, .int v)] []) ++ [.clo 81 [.str "", .cell μ.length]]) = .ok (.int v) ((μ ++ WS p μ.length b lg rk [(.str p.n0, .int v)] []) ++ [.clo 81 [.str "", .cell μ.length]]) := by
    refine cloS_last nc ?_
    rw [run_def (F := ⟨3, 3, b_lam3⟩) rfl rfl]
    simp only [WS, WF] at wl ⊢
    simp [b_lam3, e_lam3, wl]
  have hd : run P (n + 8) 30 [syD p, .cell (List.length (μ ++ WS p μ.length b lg rk [(.str p.n0, .int v)] []))] ((μ ++ WS p μ.length b lg rk [(.str p.n0, .int v)] []) ++ [.clo 81 [.str "", .cell μ.length]]) = .ok (.bl (decide (v = p.num))) ((μ ++ WS p μ.length b lg rk [(.str p.n0, .int v)] []) ++ [.clo 81 [.str "", .cell μ.length]]) := by
    have cr := fun μ => compared_run (n + 6) v p.num μ
    rw [run_def (F := ⟨2, 3, b_Compare_holds⟩) rfl rfl]
    generalize μ ++ WS p μ.length b lg rk [(.str p.n0, .int v)] [] = M at cl ⊢
    simp [b_Compare_holds, syD, fget, cl, cr]
  have lp := lamS_pure nc hd rfl
  have m1 : ∀ μ : Store, methOf P μ 5 (syD p) = some 29 := fun μ => rfl
  have m2 : ∀ μ : Store, methOf P μ 15 (syD p) = some 30 := fun μ => rfl
  have z : decide (syD p = .non) = false := rfl
  rw [run_def (F := ⟨3, 3, b_Walk_agreed⟩) rfl rfl]
  simp only [WS, WF] at st lp ⊢
  simp [b_Walk_agreed, z, m1, m2, fget, st, lp]
end
end K67

set_option linter.all false
set_option maxRecDepth 100000
namespace K67
open PySem L2 Co Tx
variable {p : Pp}
def opnR (x : Str) : D := .tup [.str "open", .str x, .str ""]
def askV (x : Str) (v : Int) : D := .tup [.str "ask", .str x, .str "", .int v]
def hldR (x : Str) : D := .tup [.str "held", .str x, .str ""]
theorem fitsW_non (n : Nat) (μ : Store) : run P (n + 2) 9 [obW p, .non] μ = .ok (.bl false) μ := by
  have iw : run P (n + 1) 1 [.non] μ = .ok (.bl false) μ := by
    rw [run_def (F := ⟨1, 1, b_is_whole⟩) rfl rfl]
    have i1 : isiS P.sub μ .non [.int] = some false := rfl
    simp [b_is_whole, i1]
  rw [run_def (F := ⟨2, 2, b_Whole_fits⟩) rfl rfl]
  simp [b_Whole_fits, iw]
theorem fitsW_int (n : Nat) (v : Int) (h1 : p.lo ≤ v) (h2 : v ≤ p.hi) (μ : Store) : run P (n + 2) 9 [obW p, .int v] μ = .ok (.bl true) μ := by
  have iw : run P (n + 1) 1 [.int v] μ = .ok (.bl true) μ := by
    rw [run_def (F := ⟨1, 1, b_is_whole⟩) rfl rfl]
    have i1 : isiS P.sub μ (.int v) [.int] = some true := rfl
    have i2 : isiS P.sub μ (.int v) [.bool] = some false := rfl
    simp [b_is_whole, i1, i2]
  rw [run_def (F := ⟨2, 2, b_Whole_fits⟩) rfl rfl]
  simp [b_Whole_fits, iw, obW, fget, h1, h2]
theorem fitsY_non (n : Nat) (μ : Store) : run P (n + 1) 6 [obY, .non] μ = .ok (.bl false) μ := by
  rw [run_def (F := ⟨2, 2, b_YesNo_fits⟩) rfl rfl]
  have i1 : isiS P.sub μ .non [.bool] = some false := rfl
  simp [b_YesNo_fits, i1]
theorem rankW (n : Nat) (v : Int) (μ : Store) : run P (n + 1) 10 [obW p, .int v] μ = .ok (.int v) μ := by
  rw [run_def (F := ⟨2, 2, b_Whole_rank⟩) rfl rfl]
  simp [b_Whole_rank]
section
variable (h : Ok p) (n : Nat) (μ : Store) (hμ : noClo μ = true) (b : Nat) (BK : List (D × D)) (hb : μ[b]? = some (.dic true BK))
include hb
theorem wasked_open0 (hk : kfind BK (kz p.n0) = none) : run P (n + 3) 56 [.cell μ.length, row0 p, .str ""] (μ ++ WS p μ.length b [] [] [] []) = .ok (.bl false) (μ ++ WS p μ.length b [opnR p.n0] [] [] []) := by
  have gb : ∀ t : Store, (μ ++ t)[b]? = some (.dic true BK) := fun t => get_app_lt hb t
  have f0 := fun μ => fitsW_non (p := p) n μ
  have m0 : ∀ μ : Store, methOf P μ 16 (obW p) = some 9 := fun μ => rfl
  have s1 : sz 1 = true := by decide
  rw [run_def (F := ⟨3, 5, b_Walk_asked⟩) rfl rfl]
  simp only [WS, WF, row0, kz, opnR] at hk ⊢
  simp [b_Walk_asked, fget, gb, hk, f0, m0, s1]
theorem wasked_open1 (lg : List D) (hl : lg.length = 1) (rk ty : List (D × D)) (hk : kfind BK (kz p.n1) = none) : run P (n + 3) 56 [.cell μ.length, row1 p, .str ""] (μ ++ WS p μ.length b lg rk ty []) = .ok (.bl false) (μ ++ WS p μ.length b (lg ++ [opnR p.n1]) rk ty []) := by
  have gb : ∀ t : Store, (μ ++ t)[b]? = some (.dic true BK) := fun t => get_app_lt hb t
  have f0 := fun μ => fitsY_non (n + 1) μ
  have m0 : ∀ μ : Store, methOf P μ 16 obY = some 6 := fun μ => rfl
  have s2 : sz 2 = true := by decide
  rw [run_def (F := ⟨3, 5, b_Walk_asked⟩) rfl rfl]
  simp only [WS, WF, row1, kz, opnR] at hk ⊢
  simp [b_Walk_asked, fget, gb, hk, f0, m0, hl, s2]
theorem wasked_int (v : Int) (h1 : p.lo ≤ v) (h2 : v ≤ p.hi) (hk : kfind BK (kz p.n0) = some (.int v)) : run P (n + 3) 56 [.cell μ.length, row0 p, .str ""] (μ ++ WS p μ.length b [] [] [] []) = .ok (.bl true) (μ ++ WS p μ.length b [askV p.n0 v] [(kz p.n0, .int v)] [(.str p.n0, .int v)] []) := by
  have gb : ∀ t : Store, (μ ++ t)[b]? = some (.dic true BK) := fun t => get_app_lt hb t
  have f0 := fun μ => fitsW_int (p := p) n v h1 h2 μ
  have r0 := fun μ => rankW (p := p) (n + 1) v μ
  have m0 : ∀ μ : Store, methOf P μ 16 (obW p) = some 9 := fun μ => rfl
  have m1 : ∀ μ : Store, methOf P μ 17 (obW p) = some 10 := fun μ => rfl
  have s1 : sz 1 = true := by decide
  rw [run_def (F := ⟨3, 5, b_Walk_asked⟩) rfl rfl]
  simp only [WS, WF, row0, kz, askV] at hk ⊢
  simp [b_Walk_asked, fget, gb, hk, f0, m0, m1, r0, s1, kput1]
end
theorem wchecked (h : Ok p) (n : Nat) (μ : Store) (hμ : noClo μ = true) (b : Nat) (v : Int) (hv : vB v) (hn : v ≠ p.num) : run P (n + 10) 57 [.cell μ.length, row2 p, .str ""] (μ ++ WS p μ.length b [askV p.n0 v] [(kz p.n0, .int v)] [(.str p.n0, .int v)] []) = .ok (.bl false) (μ ++ WS p μ.length b [askV p.n0 v, hldR p.n2] [(kz p.n0, .int v)] [(.str p.n0, .int v)] []) := by
  have wa := wagree_run h n μ hμ b v hv [askV p.n0 v] [(kz p.n0, .int v)]
  rw [decide_eq_false hn] at wa
  have s2 : sz 2 = true := by decide
  rw [run_def (F := ⟨3, 3, b_Walk_checked⟩) rfl rfl]
  simp only [WS, WF, row2, hldR] at wa ⊢
  simp [b_Walk_checked, fget, wa, s2]
/-! ### through the sheet, for each of the three books -/
inductive Bk where
  | nil | key (v : Int)
def Bk.D (p : Pp) : Bk → List (D × D)
  | .nil => []
  | .key v => [(kz p.n0, .int v)]
def Bk.ok (p : Pp) : Bk → Prop
  | .nil => True
  | .key v => p.lo ≤ v ∧ v ≤ p.hi
def Bk.log (p : Pp) : Bk → List Co.D
  | .nil => [opnR p.n0]
  | .key v => if v = p.num then [askV p.n0 v, opnR p.n1] else [askV p.n0 v, hldR p.n2]
def Bk.rk (p : Pp) : Bk → List (Co.D × Co.D)
  | .nil => []
  | .key v => [(kz p.n0, .int v)]
def Bk.ty (p : Pp) : Bk → List (Co.D × Co.D)
  | .nil => []
  | .key v => [(.str p.n0, .int v)]
theorem wthr_run (h : Ok p) (n : Nat) (μ : Store) (hμ : noClo μ = true) (b : Nat) (B : Bk) (hB : B.ok p) (hb : μ[b]? = some (.dic true (B.D p))) :
    run P (n + 11) 58 [.cell μ.length, shtD p, .str ""] (μ ++ WS p μ.length b [] [] [] []) = .ok (.bl false) (μ ++ WS p μ.length b (B.log p) (B.rk p) (B.ty p) []) := by
  have a0 : ∀ μ' : Store, run P (n + 10) 55 [.cell μ.length, .non, .str ""] μ' = .ok (.bl true) μ' := fun μ' => wagree_non (n + 9) _ _ _
  have i0 : ∀ (μ : Store) (fs : List (Nat × D)), isiS P.sub μ (.ins 6 fs) [.own 7] = some false := fun μ fs => rfl
  have i1 : ∀ (μ : Store) (fs : List (Nat × D)), isiS P.sub μ (.ins 7 fs) [.own 7] = some true := fun μ fs => rfl
  have m0 : ∀ m lg rk ty, methOf P (μ ++ WS p μ.length b lg rk ty []) m (.cell μ.length) = mlk P 13 m := fun m lg rk ty => by simp [WS]
  have ln : ∀ lg rk ty, (WS p μ.length b lg rk ty []).length = 4 := fun _ _ _ => rfl
  rw [run_def (F := ⟨3, 4, b_Walk_through⟩) rfl rfl]
  cases B with
  | nil =>
    have q0 := wasked_open0 (p := p) (n + 7) μ b [] hb rfl
    simp only [row0] at q0
    simp [b_Walk_through, shtD, row0, row1, row2, fget, i0, i1, m0, a0, q0, Bk.log, Bk.rk, Bk.ty, ln]
  | key v =>
    obtain ⟨v1, v2⟩ := hB
    have hv : vB v := ⟨by have := h.b1; omega, by have := h.b2; omega⟩
    have q0 := wasked_int (p := p) (n + 7) μ b _ hb v v1 v2 (by simp [Bk.D, kfind])
    have wa := wagree_run h (n + 1) μ hμ b v hv [askV p.n0 v] [(kz p.n0, .int v)]
    by_cases hn : v = p.num
    · have q1 := wasked_open1 (p := p) (n + 7) μ b _ hb [askV p.n0 v] rfl [(kz p.n0, .int v)] [(.str p.n0, .int v)] (by simp [Bk.D, kfind, kz, h.h01])
      rw [decide_eq_true hn] at wa
      simp only [row0, row1] at q0 q1
      simp [b_Walk_through, shtD, row0, row1, row2, fget, i0, i1, m0, a0, q0, q1, wa, Bk.log, Bk.rk, Bk.ty, ln, hn] at q0 q1 wa ⊢
      simp [q0, q1, wa, ln, m0]
    · have q1 := wchecked h n μ hμ b v hv hn
      rw [decide_eq_false hn] at wa
      simp only [row0, row2] at q0 q1
      simp [b_Walk_through, shtD, row0, row1, row2, fget, i0, i1, m0, a0, q0, q1, wa, Bk.log, Bk.rk, Bk.ty, ln, hn]
end K67

set_option linter.all false
set_option maxRecDepth 100000
namespace Co
open PySem L2
theorem forS_items {body : Env → Store → RS} {tg : TGT} {clr : List Nat} {env : Env} {μ : Store} (t : Bool) (kvs : List (D × D)) : forS body tg .items [.dic t kvs] clr env μ = forL body tg tt clr (kvs.map fun p => .tup [p.1, p.2]) env μ :=
  forL_tt fun μ' => by simp [stayB, itemsOf, tagOf, Co.dicOf]
theorem walk_items (μ : Store) (t : Bool) (kvs : List (D × D)) : walkedC μ .items [.dic t kvs] = none := rfl
end Co
namespace K67
open PySem L2 Co Tx
variable {p : Pp}
theorem things_run (n c : Nat) (μ : Store) : run P (n + 1) 59 [.cell c, shtD p] μ = .ok (.lst [.str ""]) μ := by
  rw [run_def (F := ⟨2, 2, b_Walk_things⟩) rfl rfl]
  simp [b_Walk_things, shtD, fget]
theorem straight_run (h : Ok p) (n : Nat) (μ : Store) (hμ : noClo μ = true) (b : Nat) (B : Bk) (hB : B.ok p) (hb : μ[b]? = some (.dic true (B.D p))) :
    run P (n + 12) 61 [papD p, .cell b] μ = .ok (.lst (B.log p)) μ := by
  have wm : makeS P (run P (n + 11)) 13 false [papD p, .cell b] μ = .ok (.cell μ.length) (μ ++ WS p μ.length b [] [] [] []) := make_cell P μ _ (in_13) (walk_init h (n + 9) b μ (lt_of_get hb))
  have wt := wthr_run h n μ hμ b B hB hb
  have th := fun μ' => things_run (p := p) (n + 10) μ.length μ'
  have m0 : ∀ m lg rk ty, methOf P (μ ++ WS p μ.length b lg rk ty []) m (.cell μ.length) = mlk P 13 m := fun m lg rk ty => by simp [WS]
  have hf : ∀ μ : Store, fldS P.fok μ (insOf μ (papD p)) 10 = .ok (.lst [shtD p]) μ := fun μ => by simp [papD, fget]
  rw [run_def (F := ⟨2, 6, b_straight⟩) rfl rfl]
  simp [b_straight, wm, hf, m0, th, wt]
  have lt : ∀ n, D.lts n (B.log p) = true := fun n => by
    cases B with
    | nil => simp [Bk.log, opnR]
    | key v =>
      by_cases hn : v = p.num <;> simp [Bk.log, hn, askV, opnR, hldR]
  simp [WS, WF, kFrzf, kFrzf2, fget, fput, lt]
def Bk.rows (p : Pp) : Bk → List Co.D
  | .nil => []
  | .key v => [.tup [.str p.n0, .str "", .int v]]
def Bk.cnt (p : Pp) : Bk → List (Co.D × Co.D)
  | .nil => []
  | .key v => [(ky p.n0, .int v)]
def Bk.o : Bk → Option (Int × Int)
  | .nil => none
  | .key v => some (v, v)
theorem counted_run (h : Ok p) (n : Nat) (μ : Store) (hμ : noClo μ = true) (B : Bk) (hB : B.ok p) : run P (n + 13) 70 [papD p, .lst (B.rows p)] μ = .ok (.dic true (B.cnt p)) μ := by
  have er := fun μ => eaches_run h (n + 11) μ
  have s1 : sz 1 = true := by decide
  have d0 : kfind (ED p) (.str p.n0) = some .non := by simp [ED, kfind]
  have e1 : ¬ (("open" : Str) = "ask") := by decide +kernel
  have e2 : ¬ (("held" : Str) = "ask") := by decide +kernel
  rw [run_def (F := ⟨2, 10, b_counted_in⟩) rfl rfl]
  cases B with
  | nil =>
    have st := straight_run h n (μ ++ [.dic true [], .dic true []]) (by simp [hμ]) μ.length .nil trivial (by simp [Bk.D])
    simp only [Bk.log, opnR] at st
    simp [b_counted_in, Bk.rows, Bk.cnt, er, st, e1]
  | key v =>
    have st := straight_run h n (μ ++ [.dic true [(kz p.n0, .int v)], .dic true []]) (by simp [hμ]) μ.length (.key v) hB (by simp [Bk.D])
    simp only [kz] at st
    by_cases hn : v = p.num
    · simp only [Bk.log, if_pos hn, askV, opnR] at st
      simp [b_counted_in, Bk.rows, Bk.cnt, er, st, e1, kput1, s1, ixS_dic, d0, ky]
    · simp only [Bk.log, if_neg hn, askV, hldR] at st
      simp [b_counted_in, Bk.rows, Bk.cnt, er, st, e2, kput1, s1, ixS_dic, d0, ky]
/-! ### the ending -/
theorem first_loopM {B : Co.Env → Store → RS} {tg : TGT} {clr : List Nat} {E : Co.Env} {E1 : Option (Int × Int) → Co.Env} {μ : Store} {R : D} (ha : ∀ o, asgT tg (lvD p o) E = some (E1 o)) :
    ∀ ls : List (Option (Int × Int)), (∀ o ∈ ls, kn p o = some true → ∃ env', B (E1 o) μ = .ok (.rt R, env') μ) → (∀ o, kn p o ≠ some true → ∃ env', B (E1 o) μ = .ok (.nx, env') μ ∧ wipeE env' clr = E) →
    if (fstO p ls).isSome then ∃ env', forL B tg tt clr (ls.map (lvD p)) E μ = .ok (.rt R, env') μ else forL B tg tt clr (ls.map (lvD p)) E μ = .ok (.nx, E) μ
  | [], _, _ => by
    show forL B tg tt clr [] E μ = _
    rw [forL_nil]
  | o :: r, hT, hF => by
    have ih := first_loopM ha r (fun q hq => hT q (List.mem_cons_of_mem _ hq)) hF
    unfold fstO at ih ⊢
    rw [List.find?_cons, List.map_cons, forL_cons, ha, kFor2_some]
    by_cases hk : kn p o = some true
    · rw [decide_eq_true hk]
      obtain ⟨env', h1⟩ := hT o List.mem_cons_self hk
      rw [h1]
      exact ⟨env', rfl⟩
    · rw [decide_eq_false hk]
      obtain ⟨env', h1, h2⟩ := hF o hk
      rw [h1, kTurn_nx, turnEnd_len rfl rfl, h2]
      exact ih
theorem cvF_one (most : Nat) (o : Option (Int × Int)) (hk : (kn p o).isSome = true) : cvF p most o = ⟨[o], [.leaf o], 0⟩ := by
  have e1 : cv p most o 1 = ⟨[o], [.leaf o], 0⟩ := by
    show stepC p most ⟨[o], [], 0⟩ = _
    unfold stepC goes
    simp [hk]
  have := cv_end most o 1 (by rw [e1]; rfl) (2 * most)
  rw [show 1 + 2 * most = 2 * most + 1 by omega] at this
  exact this.trans e1
theorem in_o (h : Ok p) (B : Bk) (hB : B.ok p) : inB p B.o := by
  cases B with
  | nil => exact in0 h
  | key v => exact ⟨hB.1, Int.le_refl _, hB.2⟩
def eBody : CS := match b_ending with
  | .seq _ (.seq _ (.seq _ (.seq _ (.seq _ (.seq _ (.seq (.for _ _ _ b _) _)))))) => b
  | _ => .skip
theorem kept_of (most : Nat) (B : Bk) : ∀ o ∈ lvs (cvF p most B.o), kn p o = some true → Kept p (.dic true (B.cnt p)) := by
  intro o ho hk
  cases B with
  | nil => exact .inl rfl
  | key v =>
    have hv : (kn p (some (v, v))).isSome = true := by
      show (kw p.num (v, v)).isSome = true
      unfold kw
      simp only
      by_cases e : v = p.num
      · rw [if_pos ⟨e, e⟩]
        rfl
      · rw [if_neg (fun q => e q.1), if_neg (fun q => by omega)]
        rfl
    have e1 : lvs (cvF p most (Bk.o (.key v))) = [some (v, v)] := by
      show lvs (cvF p most (some (v, v))) = _
      rw [cvF_one most (some (v, v)) hv]
      rfl
    rw [e1, List.mem_singleton] at ho
    subst ho
    have := kn_true hk
    have e : v = p.num := congrArg Prod.fst this
    refine .inr ?_
    rw [← e]
    rfl
theorem ending_run (h : Ok p) (n most : Nat) (hm : most ≤ 64) (B : Bk) (hB : B.ok p) (μ : Store) (hμ : noClo μ = true) :
    run P (n + 14) 71 [papD p, .lst (B.rows p), .int (most : Int)] μ = .ok (lookD p most B.o (rowsN p 2)) μ := by
  have kr := fun μ => kinds_run h (n + 12) μ
  have cn := counted_run h n μ hμ B hB
  have hn : noClo (μ ++ [.dead]) = true := by simp [hμ]
  have cr := cover_run h (n + 2) most hm B.o (in_o h B hB) (boxD p.n0 B.o) (.inr rfl) _ hn
  have lr := leaves_run (p := p) (n + 12) (cvF p most B.o) (cvF_200 most hm B.o) (μ ++ [.dead])
  have nr := none_run (p := p) (n + 11) (cvF p most B.o) (cvF_200 most hm B.o) (μ ++ [.dead])
  have s1 : sz 1 = true := by decide
  have x9 : ∀ (o : Option Bool) (μ : Store), eqS μ (.lst (lgD p o)) (.lst []) = some false := fun o μ => by
    rw [eqS_nil (xs := lgD p o) rfl]
    cases o with
    | none => rfl
    | some b => cases b <;> rfl
  let E1 : Option (Int × Int) → Co.Env := fun o => [some (papD p), some (.lst (B.rows p)), some (.int (most : Int)), some (.dic false (KD p)), some (.dic true (B.cnt p)), some (boxD p.n0 B.o), none, none, none, some (.lst (ndL p (cvF p most B.o))), some (lvD p o)]
  have fl := first_loopM (p := p) (B := evS P (run P (n + 13)) eBody) (tg := .nm 10) (clr := [10]) (E := [some (papD p), some (.lst (B.rows p)), some (.int (most : Int)), some (.dic false (KD p)), some (.dic true (B.cnt p)), some (boxD p.n0 B.o), none, none, none, some (.lst (ndL p (cvF p most B.o))), none])
    (E1 := E1) (μ := μ ++ [.dead]) (R := .tup [.str "row", .lst (rowsN p 2)]) (fun o => rfl) (lvs (cvF p most B.o))
    (fun o ho hk => by
      have x2 := lv_ix2 (p := p) o
      have x3 := lv_ix3 (p := p) o
      have kp := kept_of most B o ho hk
      have rr := fun μ => row_run h (n + 11) o hk (.dic true (B.cnt p)) kp 2 (.inr rfl) μ
      have hr : rgD p o = [rgR p.n0 (p.num, p.num), rgR p.n1 (0, 1)] := by
        unfold rgD
        rw [kn_true hk, if_pos hk]
      rw [hk] at x2
      rw [hr] at x3
      have x8 : ∀ μ : Store, ixS μ (.lst (lgD p (some true))) (.int (-1)) = .ok endR μ := fun μ => rfl
      have x7 : ∀ μ : Store, eqS μ endR (.tup [.str "end"]) = some true := fun μ => rfl
      refine ⟨E1 o, ?_⟩
      simp only [eBody, b_ending, E1]
      simp only [Int.cast_ofNat_Int] at rr
      simp [x2, x3, x9, x8, x7, rr])
    (fun o hk => by
      have x2 := lv_ix2 (p := p) o
      refine ⟨E1 o, ?_, rfl⟩
      simp only [eBody, b_ending, E1]
      cases hk2 : kn p o with
      | none =>
        rw [hk2] at x2
        have x8 : ∀ μ : Store, ixS μ (.lst (lgD p none)) (.int (-1)) = .ok (lgR "ask" p.n0) μ := fun μ => rfl
        have x7 : ∀ μ : Store, eqS μ (lgR "ask" p.n0) (.tup [.str "end"]) = some false := fun μ => by simp [lgR, eqS, eqS0, still, D.dat, D.dats, D.eqv, D.eqvs]
        simp [x2, x9, x8, x7]
      | some b =>
        cases b with
        | true => exact absurd hk2 hk
        | false =>
          rw [hk2] at x2
          have x8 : ∀ μ : Store, ixS μ (.lst (lgD p (some false))) (.int (-1)) = .ok (lgR "held" p.n2) μ := fun μ => rfl
          have x7 : ∀ μ : Store, eqS μ (lgR "held" p.n2) (.tup [.str "end"]) = some false := fun μ => by simp [lgR, eqS, eqS0, still, D.dat, D.dats, D.eqv, D.eqvs]
          simp [x2, x9, x8, x7])
  rw [run_def (F := ⟨3, 11, b_ending⟩) rfl rfl]
  unfold lookD
  simp only [eBody, b_ending] at fl
  have cr : run P (n + 13) 49 [papD p, .int (most : Int), boxD p.n0 B.o] (μ ++ [.dead]) = .ok (.lst (ndL p (cvF p most B.o))) (μ ++ [.dead]) := cr
  have ltc : ∀ n, D.ltp n (B.cnt p) = true := fun n => by cases B <;> simp [Bk.cnt, ky]
  have ltr : ∀ n, D.lts n (B.rows p) = true := fun n => by cases B <;> simp [Bk.rows]
  have main : ∀ (R : RS), forL (evS P (run P (n + 13)) eBody) (.nm 10) tt [10] ((lvs (cvF p most B.o)).map (lvD p)) [some (papD p), some (.lst (B.rows p)), some (.int (most : Int)), some (.dic false (KD p)), some (.dic true (B.cnt p)), some (boxD p.n0 B.o), none, none, none, some (.lst (ndL p (cvF p most B.o))), none] (μ ++ [.dead]) = R →
      evS P (run P (n + 13)) b_ending [some (papD p), some (.lst (B.rows p)), some (.int (most : Int)), none, none, none, none, none, none, none, none] μ = kSeq P (run P (n + 13)) (.ret (.call 65 (.acons (.var 9) .anil) [])) R := fun R hR => by
    simp only [eBody, b_ending] at hR
    cases B with
    | nil =>
      simp only [Bk.o, Bk.rows, Bk.cnt] at hR cn cr lr ⊢
      simp only [boxD] at hR cr ⊢
      simp [b_ending, kr, cn, Co.forS_items, Co.walk_items, cr, lr, hR]
    | key v =>
      have kk : kfind (KD p) (.str p.n0) = some (obW p) := by simp [KD, kfind]
      have mr : ∀ μ : Store, methOf P μ 17 (obW p) = some 10 := fun μ => rfl
      have rw' := fun μ => rankW (p := p) (n + 12) v μ
      simp only [Bk.o, Bk.rows, Bk.cnt, ky] at hR cn cr lr ⊢
      simp only [boxD] at hR cr ⊢
      simp [b_ending, kr, cn, Co.forS_items, Co.walk_items, kk, mr, rw', ixS_dic, kput1, s1, cr, lr, hR]
  have e11 : evS P (run P (n + 13)) b_ending ([some (papD p), some (.lst (B.rows p)), some (.int (most : Int))] ++ List.replicate 8 none) μ = evS P (run P (n + 13)) b_ending [some (papD p), some (.lst (B.rows p)), some (.int (most : Int)), none, none, none, none, none, none, none, none] μ := rfl
  show leave μ (fin (evS P (run P (n + 13)) b_ending [some (papD p), some (.lst (B.rows p)), some (.int (most : Int)), none, none, none, none, none, none, none, none] μ)) = _
  split at fl
  · next hg =>
    rw [if_pos hg]
    obtain ⟨env', fl⟩ := fl
    rw [main _ fl]
    simp
  · next hg =>
    rw [if_neg hg]
    rw [main _ fl]
    simp [nr]
end K67

set_option linter.all false
set_option maxRecDepth 100000
namespace K67
open PySem L2 Co Tx
variable {p : Pp}
/-! ### the law's own parts -/
def cellZ (ns : List Int) (k : Nat) : Int := if k < ns.length then ns.getD k 0 % 10 ^ 40 else 0
theorem cellZ_b (ns : List Int) (k : Nat) : 0 ≤ cellZ ns k ∧ cellZ ns k < 10 ^ 40 := by
  unfold cellZ
  split
  · generalize ns.getD k 0 = z
    omega
  · omega
theorem pow40 (μ : Store) : binS μ .pow (.int 10) (.int 40) = .ok (.int (10 ^ 40)) μ := by
  have h : powB 10 40 = true := by decide
  simp [binS, h]
theorem pow18 (μ : Store) : binS μ .pow (.int 10) (.int 18) = .ok (.int (1000000000000000000)) μ := by
  have h : powB 10 18 = true := by decide
  simp [binS, h]
theorem cell_run (ns : List Int) (k n : Nat) (μ : Store) : run P (n + 1) 72 [.lst (ns.map D.int), .int (k : Int)] μ = .ok (.int (cellZ ns k)) μ := by
  rw [run_def (F := ⟨2, 2, b_L_cell⟩) rfl rfl]
  by_cases h : k < ns.length
  · simp [b_L_cell, h, atI_nat', cellZ, pow40, binS_mod]
  · simp [b_L_cell, h, cellZ]
theorem abc_ix (m : Nat) (h : m < 26) : (("abcdefghijklmnopqrstuvwxyz" : Str).cps.toList)[m]? = some (97 + m) := by
  revert m
  decide +kernel
def n1S (ns : List Int) (k : Nat) : Str := ⟨#[97 + ((k : Int) * 5 + cellZ ns 0 / 20).toNat % 26]⟩
def nameS (ns : List Int) (k : Nat) : Str := Txt.mul "x" (cellZ ns 0 % 4) ++ (n1S ns k ++ ⟨#[97 + k]⟩) ++ Txt.mul "y" (cellZ ns 0 / 4 % 5)
theorem name_run (ns : List Int) (k n : Nat) (μ : Store) (hk : k < 26) : run P (n + 2) 73 [.lst (ns.map D.int), .int (k : Int)] μ = .ok (.str (nameS ns k)) μ := by
  obtain ⟨b0, b1⟩ := cellZ_b ns 0
  rw [run_def (F := ⟨2, 5, b_L_name⟩) rfl rfl]
  have hc : run P (n + 1) 72 [.lst (ns.map D.int), .int 0] μ = .ok (.int (cellZ ns 0)) μ := cell_run ns 0 n μ
  have e1 : atI (("abcdefghijklmnopqrstuvwxyz" : Str).cps.toList) (((k : Int) * 5 + cellZ ns 0 / 20) % 26) = some (97 + ((k : Int) * 5 + cellZ ns 0 / 20).toNat % 26) := by
    rw [show ((k : Int) * 5 + cellZ ns 0 / 20) % 26 = ((((k : Int) * 5 + cellZ ns 0 / 20).toNat % 26 : Nat) : Int) by omega, atI_nat', abc_ix _ (by omega)]
  have e2 : atI (("abcdefghijklmnopqrstuvwxyz" : Str).cps.toList) (k : Int) = some (97 + k) := by rw [atI_nat', abc_ix _ hk]
  have s1 : sz ("abcdefghijklmnopqrstuvwxyz" : Str).length = true := by decide +kernel
  have d1 : divB 4 = true := by decide
  have d2 : divB 20 = true := by decide
  have mb : mulB (k : Int) 5 = true := mulB_s (by omega) (by omega) (by omega) (by omega)
  have m1 : mulSB "x" (cellZ ns 0 % 4) = true := decide_eq_true ⟨by omega, by omega, by decide⟩
  have m2 : mulSB "y" (cellZ ns 0 / 4 % 5) = true := decide_eq_true ⟨by omega, by omega, by decide⟩
  have l1 : (Txt.mul "x" (cellZ ns 0 % 4)).length ≤ 3 := by rw [mul_len]; show _ * 1 ≤ _; omega
  have l2 : (Txt.mul "y" (cellZ ns 0 / 4 % 5)).length ≤ 4 := by rw [mul_len]; show _ * 1 ≤ _; omega
  have z1 : sz ((n1S ns k).length + (⟨#[97 + k]⟩ : Str).length) = true := sz_of (by unfold n1S; rw [len_one, len_one]; omega)
  have z2 : sz ((Txt.mul "x" (cellZ ns 0 % 4)).length + (n1S ns k ++ ⟨#[97 + k]⟩).length) = true := sz_of (by unfold n1S; rw [len_app, len_one, len_one]; omega)
  have z3 : sz ((Txt.mul "x" (cellZ ns 0 % 4) ++ (n1S ns k ++ ⟨#[97 + k]⟩)).length + (Txt.mul "y" (cellZ ns 0 / 4 % 5)).length) = true := sz_of (by unfold n1S; rw [len_app, len_app, len_one, len_one]; omega)
  unfold nameS
  unfold n1S at *
  simp [b_L_name, hc, binS_mod, binS_fdiv _ _ _ d1, binS_fdiv _ _ _ d2, binS_mul _ _ _ mb, ixS_str _ _ _ s1, e1, e2, binS_muls _ _ _ m1, binS_muls _ _ _ m2, binS_adds _ _ _ z1, binS_adds _ _ _ z2, binS_adds _ _ _ z3]
theorem name_inj (ns : List Int) {i j : Nat} (h : nameS ns i = nameS ns j) : i = j := by
  have h2 := congrArg TL.tl h
  have e : ∀ a : Nat, TL.tl (⟨#[a]⟩ : Str) = [a] := fun _ => rfl
  simp only [nameS, n1S, TL.tl_append, List.append_assoc, e] at h2
  have h3 := List.append_cancel_left h2
  simp only [List.cons_append, List.cons.injEq, List.nil_append] at h3
  omega
/-! ### the paper made -/
theorem wh_make (n : Nat) (l h : Int) (μ : Store) : makeS P (run P (n + 1)) 2 true [.int l, .int h] μ = .ok (.ins 2 [(1, .int l), (2, .int h)]) μ := by
  refine make_frz P μ _ (in_2) ?_ (by simp)
  rw [run_def (F := ⟨3, 3, b_Kind___init__⟩) rfl rfl]
  simp [b_Kind___init__, fput]
theorem yn_make (n : Nat) (μ : Store) : makeS P (run P (n + 2)) 1 true [] μ = .ok obY μ := by
  refine make_frz P μ _ (in_1) ?_ (by simp)
  have r : run P (n + 1) 3 [.cell μ.length, .int 0, .int 1] (μ ++ [.ins 1 []]) = .ok .non (μ ++ [.ins 1 [(1, .int 0), (2, .int 1)]]) := by
    rw [run_def (F := ⟨3, 3, b_Kind___init__⟩) rfl rfl]
    simp [b_Kind___init__, fput]
  rw [run_def (F := ⟨1, 1, b_YesNo___init__⟩) rfl rfl]
  simp [b_YesNo___init__, r]
theorem row_init (n c : Nat) (x : Str) (μ : Store) (hc : c = 6 ∨ c = 7) : run P (n + 1) 16 [.cell μ.length, .str x] (μ ++ [.ins c []]) = .ok .non (μ ++ [.ins c [(0, .str x)]]) := by
  rw [run_def (F := ⟨2, 2, b_Row___init__⟩) rfl rfl]
  rcases hc with rfl | rfl <;> simp [b_Row___init__, fput]
theorem ask_make (n : Nat) (x : Str) (ob sy : D) (μ : Store) (ho : ob.lt μ.length = true) (hs : sy.lt μ.length = true) : makeS P (run P (n + 2)) 6 true [.str x, ob, sy] μ = .ok (.ins 6 [(0, .str x), (3, ob), (4, sy)]) μ := by
  refine make_frz P μ _ (in_6) ?_ (by simp [ho, hs])
  have r := row_init n 6 x μ (.inl rfl)
  rw [run_def (F := ⟨4, 4, b_Ask___init__⟩) rfl rfl]
  simp [b_Ask___init__, r, fput]
theorem chk_make (n : Nat) (x : Str) (sy : D) (μ : Store) (hs : sy.lt μ.length = true) : makeS P (run P (n + 2)) 7 true [.str x, sy, .bl true] μ = .ok (.ins 7 [(0, .str x), (5, sy), (6, .bl true)]) μ := by
  refine make_frz P μ _ (in_7) ?_ (by simp [hs])
  have r := row_init n 7 x μ (.inr rfl)
  rw [run_def (F := ⟨4, 4, b_Check___init__⟩) rfl rfl]
  simp [b_Check___init__, r, fput]
theorem sht_make (n : Nat) (rows ways : List D) (μ : Store) (hr : D.lts μ.length rows = true) (hw : D.lts μ.length ways = true) : makeS P (run P (n + 1)) 8 true [.str "only", .non, .lst rows, .lst ways] μ = .ok (.ins 8 [(0, .str "only"), (7, .non), (8, .lst rows), (9, .lst ways)]) μ := by
  refine make_frz P μ _ (in_8) ?_ (by simp [hr, hw])
  rw [run_def (F := ⟨5, 5, b_Sheet___init__⟩) rfl rfl]
  have hq : ∀ (μ : Store) l, biS μ (.list true) [.lst l] = .ok (.lst l) μ := fun μ l => rfl
  simp [b_Sheet___init__, hq, fput]
theorem pap_make (n : Nat) (sh tt : List D) (μ : Store) (hs : D.lts μ.length sh = true) (ht : D.lts μ.length tt = true) : makeS P (run P (n + 1)) 9 true [.str "paper", .lst sh, .lst tt] μ = .ok (.ins 9 [(0, .str "paper"), (10, .lst sh), (11, .lst tt)]) μ := by
  refine make_frz P μ _ (in_9) ?_ (by simp [hs, ht])
  rw [run_def (F := ⟨4, 4, b_Paper___init__⟩) rfl rfl]
  have hq : ∀ (μ : Store) l, biS μ (.list true) [.lst l] = .ok (.lst l) μ := fun μ l => rfl
  simp [b_Paper___init__, hq, fput]
theorem paper_run (n : Nat) (many : Int) (hm : p.lo + many - 1 = p.hi) (μ : Store) : run P (n + 3) 74 [.lst [.str p.n0, .str p.n1, .str p.n2, .str p.n3], .int p.lo, .int many, .int p.num] μ = .ok (papD p) μ := by
  have cm := fun μ => cm_make (n + 1) p.n3 p.num μ
  have wm : ∀ μ, makeS P (run P (n + 2)) 2 true [.int p.lo, .int p.hi] μ = .ok (obW p) μ := fun μ => wh_make (n + 1) p.lo p.hi μ
  have ym := fun μ => yn_make n μ
  have a0 : ∀ μ, makeS P (run P (n + 2)) 6 true [.str p.n0, obW p, .non] μ = .ok (row0 p) μ := fun μ => ask_make n _ _ _ μ (by simp) (by simp)
  have a1 : ∀ μ, makeS P (run P (n + 2)) 6 true [.str p.n1, obY, syD p] μ = .ok (row1 p) μ := fun μ => ask_make n _ _ _ μ (by simp) (by simp)
  have a2 : ∀ μ, makeS P (run P (n + 2)) 7 true [.str p.n2, syD p, .bl true] μ = .ok (row2 p) μ := fun μ => chk_make n _ _ μ (by simp)
  have sm : ∀ μ, makeS P (run P (n + 2)) 8 true [.str "only", .non, .lst [row0 p, row1 p, row2 p], .lst [.tup [.str "end", syD p], .tup [.str "end", .non]]] μ = .ok (shtD p) μ := fun μ => sht_make (n + 1) _ _ μ (by simp) (by simp)
  have pm : ∀ μ, makeS P (run P (n + 2)) 9 true [.str "paper", .lst [shtD p], .lst [.tup [.str p.n3, .lst [.tup [.int 1, .str p.n0]]]]] μ = .ok (papD p) μ := fun μ => pap_make (n + 1) _ _ μ (by simp) (by simp)
  have cm : ∀ μ, makeS P (run P (n + 2)) 11 true [.str p.n3, .str "=", .int p.num] μ = .ok (syD p) μ := cm
  have s3 : sz 3 = true := by decide
  rw [run_def (F := ⟨4, 7, b_L_paper⟩) rfl rfl]
  simp [b_L_paper, cm, wm, ym, a0, a1, a2, sm, pm, hm, s3]
end K67

set_option linter.all false
set_option maxRecDepth 100000
namespace K67
open PySem L2 Co Tx
variable {p : Pp}
theorem lts_filter' {n : Nat} {g : D → Bool} : ∀ {l : List D}, D.lts n l = true → D.lts n (l.filter g) = true
  | [], _ => rfl
  | x :: r, h => by
    rw [lts_cons, Bool.and_eq_true] at h
    rw [List.filter_cons]
    split
    · rw [lts_cons, h.1, lts_filter' h.2]
      rfl
    · exact lts_filter' h.2
def isSp : D → Bool
  | .tup (.str w :: _) => w == "split"
  | _ => false
def isDk : D → Bool
  | .tup (.str w :: .bl b :: _) => w == "leaf" && !b
  | _ => false
theorem filt_sp (s : Cv) : (((ndL p s).filter isSp).map (fun d => d)).length + (lvs s).length = s.nd.length := by
  unfold ndL lvs
  generalize s.nd = l
  induction l with
  | nil => rfl
  | cons x r ih => cases x with
    | leaf o =>
      simp only [List.map_cons, List.filter_cons, List.filterMap_cons, Nd.D, isSp, lvO, show (("leaf" : Str) == "split") = false by decide +kernel, List.length_cons]
      simp only [Bool.false_eq_true, if_false]
      omega
    | spl c a =>
      simp only [List.map_cons, List.filter_cons, List.filterMap_cons, Nd.D, isSp, lvO, show (("split" : Str) == "split") = true by decide +kernel, List.length_cons, if_true]
      omega
theorem filt_dk (s : Cv) : (((ndL p s).filter isDk).map (fun d => d)).length = ((lvs s).filter fun o => decide (kn p o = none)).length := by
  unfold ndL lvs
  generalize s.nd = l
  induction l with
  | nil => rfl
  | cons x r ih => cases x with
    | leaf o =>
      have e : isDk ((Nd.leaf o).D p) = decide (kn p o = none) := by
        simp only [Nd.D, isDk, show (("leaf" : Str) == "leaf") = true by decide +kernel, Bool.true_and]
        cases kn p o <;> rfl
      simp only [List.map_cons, List.filter_cons, List.filterMap_cons, lvO, e]
      cases decide (kn p o = none) with
      | true => simpa using ih
      | false => simpa using ih
    | spl c a =>
      have e : isDk ((Nd.spl c a).D p) = false := rfl
      simp only [List.map_cons, List.filter_cons, List.filterMap_cons, lvO, e]
      simpa using ih
theorem unk_run (n most : Nat) (s : Cv) (hs : s.nd.length ≤ 200) (h1 : s.nd.length = 2 * most + 1) (h2 : (lvs s).length + most = s.nd.length) (h3 : ((lvs s).filter fun o => decide (kn p o = none)).length = 1) (μ : Store) :
    run P (n + 1) 75 [.tup [.str "unknown", .lst (ndL p s)], .int (most : Int)] μ = .ok (.bl true) μ := by
  have e0 : ¬ (("split" : Str) = "leaf") := by decide +kernel
  have e1 : ¬ (("leaf" : Str) = "split") := by decide +kernel
  have i1 : ∀ (μ : Store) l, isiS P.sub μ (.tup l) [.tuple] = some true := fun μ l => rfl
  have c1 : ∀ (e0' e1' e2 e3 : Option D), lcS (evE P (run P n) (.cmp .eq (.ix (.var 4) (.lit (.int 0))) (.lit (.str "split")))) (evE P (run P n) (.var 4)) (.nm 4) [4] .seq [.lst (ndL p s)] true [e0', e1', e2, e3, none] μ = .ok (.lst (((ndL p s).filter isSp).map fun d => d)) μ := fun e0' e1' e2 e3 =>
    lcS_filt isSp (fun d => d) rfl (fun ys => by simp) (by rw [ndL_len]; omega)
      (fun env0 x hx h0 => by
        obtain ⟨a, b, c, d', e, rfl⟩ : ∃ a b c d e, env0 = [a, b, c, d, e] := by
          match env0, h0 with
          | [a, b, c, d, e], _ => exact ⟨a, b, c, d, e, rfl⟩
        obtain ⟨d, hd, rfl⟩ := List.mem_map.mp hx
        refine ⟨[a, b, c, d', some (d.D p)], by simp, rfl, fun ys => ⟨?_, by simp⟩⟩
        cases d with
        | leaf o => simp [Nd.D, isSp, e1]
        | spl q a => simp [Nd.D, isSp])
      (by simpa using lts_filter' (ndL_lt p _ s))
  have c2 : ∀ (e0' e1' e2 e3 : Option D), lcS (evE P (run P n) (.and (.cmp .eq (.ix (.var 4) (.lit (.int 0))) (.lit (.str "leaf"))) (.cmp .is (.ix (.var 4) (.lit (.int 1))) (.lit (.bl false))))) (evE P (run P n) (.var 4)) (.nm 4) [4] .seq [.lst (ndL p s)] true [e0', e1', e2, e3, none] μ = .ok (.lst (((ndL p s).filter isDk).map fun d => d)) μ := fun e0' e1' e2 e3 =>
    lcS_filt isDk (fun d => d) rfl (fun ys => by simp) (by rw [ndL_len]; omega)
      (fun env0 x hx h0 => by
        obtain ⟨a, b, c, d', e, rfl⟩ : ∃ a b c d e, env0 = [a, b, c, d, e] := by
          match env0, h0 with
          | [a, b, c, d, e], _ => exact ⟨a, b, c, d, e, rfl⟩
        obtain ⟨d, hd, rfl⟩ := List.mem_map.mp hx
        refine ⟨[a, b, c, d', some (d.D p)], by simp, rfl, fun ys => ⟨?_, by simp⟩⟩
        cases d with
        | leaf o =>
          have is1 : ∀ μ : Store, cmpS μ .is (.bl false) (.bl false) = some true := fun _ => rfl
          have is2 : ∀ μ : Store, cmpS μ .is (.bl true) (.bl false) = some false := fun _ => rfl
          cases hq : (kn p o).isSome <;> simp [Nd.D, isDk, hq, is1, is2]
        | spl q a => simp [Nd.D, isDk, e0])
      (by simpa using lts_filter' (ndL_lt p _ s))
  have l1 := filt_sp (p := p) s
  have l2 := filt_dk (p := p) s
  have k1 : (((ndL p s).filter isSp).map fun d => d).length = most := by omega
  have k2 : (((ndL p s).filter isDk).map fun d => d).length = 1 := by omega
  have k3 : (ndL p s).length = 2 * most + 1 := by rw [ndL_len]; exact h1
  generalize ((ndL p s).filter isSp).map (fun d => d) = X1 at *
  generalize ((ndL p s).filter isDk).map (fun d => d) = X2 at *
  have mb : mulB 2 (most : Int) = true := mulB_s (by omega) (by omega) (by omega) (by omega)
  rw [run_def (F := ⟨2, 5, b_L_unknown⟩) rfl rfl]
  simp [b_L_unknown, i1, c1, c2, k1, k2, k3, binS_mul _ _ _ mb]
end K67

set_option linter.all false
set_option maxRecDepth 100000
namespace K67
open PySem L2 Co Tx
variable {p : Pp}
theorem live0 (h : Ok p) : liveB p none = true := by
  unfold liveB
  have : kn p none ≠ some false := kw_nf (s := (p.lo, p.hi)) ⟨h.hl, h.hh⟩
  exact decide_eq_true this
theorem fst_A (h : Ok p) (most Pw : Nat) (hP : sizeO p none = 2 ^ Pw) (hm : Pw ≤ most) : (fstO p (lvs (cvF p most none))).isSome = true := by
  obtain ⟨⟨q, h1, h2⟩, h3⟩ := cvF_A most Pw none (in0 h) (live0 h) hP hm
  have hq : q ∈ (lvs (cvF p most none)).filter (liveB p) := by rw [h1]; exact List.mem_singleton.mpr rfl
  unfold fstO
  rw [List.find?_isSome]
  exact ⟨q, (List.mem_filter.mp hq).1, decide_eq_true h2⟩
theorem fst_B (h : Ok p) (most Pw : Nat) (hP : sizeO p none = 2 ^ Pw) (hm : most < Pw) : (fstO p (lvs (cvF p most none))).isSome = false ∧ allW p (cvF p most none) = false ∧ ((lvs (cvF p most none)).filter fun o => decide (kn p o = none)).length = 1 := by
  obtain ⟨⟨q, h1, h2⟩, h3⟩ := cvF_B most Pw none (in0 h) (live0 h) hP hm
  have hq : q ∈ (lvs (cvF p most none)).filter (liveB p) := by rw [h1]; exact List.mem_singleton.mpr rfl
  have hq1 := (List.mem_filter.mp hq).1
  refine ⟨?_, ?_, ?_⟩
  · rw [Bool.eq_false_iff]
    intro hs
    unfold fstO at hs
    rw [List.find?_isSome] at hs
    obtain ⟨o, ho, hk⟩ := hs
    have hk : kn p o = some true := of_decide_eq_true hk
    have : o ∈ (lvs (cvF p most none)).filter (liveB p) := List.mem_filter.mpr ⟨ho, by simp [liveB, hk]⟩
    rw [h1, List.mem_singleton] at this
    rw [this, h2] at hk
    cases hk
  · unfold allW
    rw [List.all_eq_false]
    exact ⟨q, hq1, by simp [h2]⟩
  · have e : ((lvs (cvF p most none)).filter fun o => decide (kn p o = none)) = ((lvs (cvF p most none)).filter (liveB p)).filter fun o => decide (kn p o = none) := by
      rw [List.filter_filter]
      congr 1
      funext o
      unfold liveB
      cases kn p o with
      | none => rfl
      | some b => rfl
    rw [e, h1]
    simp [h2]
theorem rowsN_dat (k : Nat) (hk : k = 1 ∨ k = 2) : (D.tup [.str "row", .lst (rowsN p k)]).dat 60 = true := by
  rcases hk with rfl | rfl <;> rfl
theorem eq_row (k : Nat) (hk : k = 1 ∨ k = 2) (μ : Store) : eqS μ (.tup [.str "row", .lst (rowsN p k)]) (.tup [.str "row", .lst (rowsN p k)]) = some true := eqS_same rfl rfl (rowsN_dat k hk)
theorem right_run (h : Ok p) (n most Pw : Nat) (hm : most ≤ 64) (hP : sizeO p none = 2 ^ Pw) (k : Nat) (hk : k = 1 ∨ k = 2) (μ : Store) :
    run P (n + 2) 76 [lookD p most none (rowsN p k), .lst (rowsN p k), .int (most : Int), .bl (decide ((Pw : Int) ≤ most))] μ = .ok (.bl true) μ := by
  have er := eq_row (p := p) k hk
  have i1 : ∀ (μ : Store) l, isiS P.sub μ (.tup l) [.tuple] = some true := fun μ l => rfl
  rw [run_def (F := ⟨4, 4, b_L_right⟩) rfl rfl]
  unfold lookD
  by_cases hle : Pw ≤ most
  · rw [if_pos (fst_A h most Pw hP hle), decide_eq_true (show (Pw : Int) ≤ most by omega)]
    simp [b_L_right, i1, er]
  · obtain ⟨f1, f2, f3⟩ := fst_B h most Pw hP (by omega)
    obtain ⟨l1, l2⟩ := cvF_len (p := p) most none
    have hsp := (cvF_B most Pw none (in0 h) (live0 h) hP (by omega)).2
    have ur := unk_run (p := p) n most (cvF p most none) (cvF_200 most hm none) (by omega) (by omega) f3 μ
    rw [if_neg (by rw [f1]; exact Bool.false_ne_true), decide_eq_false (show ¬ (Pw : Int) ≤ most by omega)]
    unfold noneD
    rw [f2]
    simp [b_L_right, ur]
theorem cover_len (h : Ok p) (most Pw : Nat) (hP : sizeO p none = 2 ^ Pw) : ((ndL p (cvF p most none)).length : Int) = 2 * (if (Pw : Int) < most then (Pw : Int) else most) + 1 := by
  obtain ⟨l1, l2⟩ := cvF_len (p := p) most none
  rw [ndL_len, l1]
  by_cases hle : Pw ≤ most
  · have := (cvF_A most Pw none (in0 h) (live0 h) hP hle).2
    rw [this]
    split <;> omega
  · have := (cvF_B most Pw none (in0 h) (live0 h) hP (by omega)).2
    rw [this]
    split <;> omega
theorem kn_key (v : Int) : kn p (some (v, v)) = some (decide (v = p.num)) := by
  show kw p.num (v, v) = _
  unfold kw
  simp only
  by_cases e : v = p.num
  · rw [if_pos ⟨e, e⟩, decide_eq_true e]
  · rw [if_neg (fun q => e q.1), if_neg (fun q => by omega), decide_eq_false e]
theorem look_key (most : Nat) (v : Int) : lookD p most (some (v, v)) (rowsN p 2) = if v = p.num then .tup [.str "row", .lst (rowsN p 2)] else .tup [.str "shut", .lst [lvD p (some (v, v))]] := by
  have hk := kn_key (p := p) v
  unfold lookD noneD allW ndL
  rw [cvF_one most (some (v, v)) (by rw [hk]; rfl)]
  have e : lvs ⟨[some (v, v)], [.leaf (some (v, v))], 0⟩ = [some (v, v)] := rfl
  rw [e]
  by_cases hv : v = p.num
  · have hk' : kn p (some (v, v)) = some true := by rw [hk, decide_eq_true hv]
    rw [if_pos hv]
    simp [fstO, hk']
  · have hk' : kn p (some (v, v)) = some false := by rw [hk, decide_eq_false hv]
    rw [if_neg hv]
    simp [fstO, hk', lvD]
end K67

set_option linter.all false
set_option maxRecDepth 100000
namespace K67
open PySem L2 Co Tx
def loZ (ns : List Int) : Int := cellZ ns 1 * 48271 % 2000000000000000000 - 1000000000000000000
def pwN (ns : List Int) : Nat := (62 + cellZ ns 2 % 5).toNat
def manyZ (ns : List Int) : Int := 2 ^ pwN ns
def numZ (ns : List Int) : Int := loZ ns + cellZ ns 3 * 982451653 * 1000000000000 % manyZ ns
def pp (ns : List Int) : Pp := ⟨nameS ns 0, nameS ns 1, nameS ns 2, nameS ns 3, loZ ns, loZ ns + manyZ ns - 1, numZ ns⟩
theorem many_b (ns : List Int) : 62 ≤ pwN ns ∧ pwN ns ≤ 66 ∧ 2 ^ 62 ≤ manyZ ns ∧ manyZ ns ≤ 2 ^ 66 := by
  have h1 : 62 ≤ pwN ns := by unfold pwN; omega
  have h2 : pwN ns ≤ 66 := by unfold pwN; omega
  refine ⟨h1, h2, ?_, ?_⟩
  · unfold manyZ
    rcases (show pwN ns = 62 ∨ pwN ns = 63 ∨ pwN ns = 64 ∨ pwN ns = 65 ∨ pwN ns = 66 by omega) with e | e | e | e | e <;> rw [e] <;> decide
  · unfold manyZ
    rcases (show pwN ns = 62 ∨ pwN ns = 63 ∨ pwN ns = 64 ∨ pwN ns = 65 ∨ pwN ns = 66 by omega) with e | e | e | e | e <;> rw [e] <;> decide
theorem lo_b (ns : List Int) : -(10 ^ 18) ≤ loZ ns ∧ loZ ns < 10 ^ 18 := by
  unfold loZ
  omega
theorem num_b (ns : List Int) : loZ ns ≤ numZ ns ∧ numZ ns ≤ loZ ns + manyZ ns - 1 := by
  obtain ⟨_, _, m1, m2⟩ := many_b ns
  unfold numZ
  have h1 := Int.emod_nonneg (cellZ ns 3 * 982451653 * 1000000000000) (show manyZ ns ≠ 0 by omega)
  have h2 := Int.emod_lt_of_pos (cellZ ns 3 * 982451653 * 1000000000000) (show 0 < manyZ ns by omega)
  omega
theorem pp_ok (ns : List Int) : Ok (pp ns) := by
  obtain ⟨_, _, m1, m2⟩ := many_b ns
  obtain ⟨l1, l2⟩ := lo_b ns
  obtain ⟨n1, n2⟩ := num_b ns
  refine ⟨fun e => ?_, fun e => ?_, fun e => ?_, fun e => ?_, fun e => ?_, fun e => ?_, n1, n2, ?_, ?_⟩
  · exact absurd (name_inj ns e) (by decide)
  · exact absurd (name_inj ns e) (by decide)
  · exact absurd (name_inj ns e) (by decide)
  · exact absurd (name_inj ns e) (by decide)
  · exact absurd (name_inj ns e) (by decide)
  · exact absurd (name_inj ns e) (by decide)
  · show -(2 ^ 100) < loZ ns
    omega
  · show loZ ns + manyZ ns - 1 < 2 ^ 100
    omega
theorem size0 (ns : List Int) : sizeO (pp ns) none = 2 ^ pwN ns := by
  show loZ ns + manyZ ns - 1 - loZ ns + 1 = manyZ ns
  omega
/-- another answer of the first question -/
def othZ (ns : List Int) : Int := loZ ns + (numZ ns - loZ ns + 1 + cellZ ns 5 % (manyZ ns - 1)) % manyZ ns
theorem oth_b (ns : List Int) : loZ ns ≤ othZ ns ∧ othZ ns ≤ loZ ns + manyZ ns - 1 ∧ othZ ns ≠ numZ ns := by
  obtain ⟨_, _, m1, m2⟩ := many_b ns
  obtain ⟨n1, n2⟩ := num_b ns
  unfold othZ
  have c1 := Int.emod_nonneg (cellZ ns 5) (show manyZ ns - 1 ≠ 0 by omega)
  have c2 := Int.emod_lt_of_pos (cellZ ns 5) (show 0 < manyZ ns - 1 by omega)
  generalize cellZ ns 5 % (manyZ ns - 1) = c at c1 c2
  have h1 := Int.emod_nonneg (numZ ns - loZ ns + 1 + c) (show manyZ ns ≠ 0 by omega)
  have h2 := Int.emod_lt_of_pos (numZ ns - loZ ns + 1 + c) (show 0 < manyZ ns by omega)
  have h3 := Int.mul_ediv_add_emod (numZ ns - loZ ns + 1 + c) (manyZ ns)
  have e : (numZ ns - loZ ns + 1 + c) / manyZ ns = 0 ∨ (numZ ns - loZ ns + 1 + c) / manyZ ns = 1 := by
    have a1 := Int.ediv_nonneg (show 0 ≤ numZ ns - loZ ns + 1 + c by omega) (show 0 ≤ manyZ ns by omega)
    have a2 : (numZ ns - loZ ns + 1 + c) / manyZ ns < 2 := Int.ediv_lt_of_lt_mul (by omega) (by omega)
    omega
  generalize (numZ ns - loZ ns + 1 + c) % manyZ ns = r at h1 h2 h3
  generalize (numZ ns - loZ ns + 1 + c) / manyZ ns = d at h3 e
  refine ⟨by omega, by omega, ?_⟩
  rcases e with rfl | rfl
  · simp at h3
    omega
  · simp at h3
    omega
end K67

set_option linter.all false
set_option maxRecDepth 100000
namespace K67
open PySem L2 Co Tx
theorem pow12 (μ : Store) : binS μ .pow (.int 10) (.int 12) = .ok (.int 1000000000000) μ := by
  have h : powB 10 12 = true := by decide
  simp [binS, h]
theorem leave_ex (μ μ' : Store) (d : D) : ∃ μ2, leave μ (.ok d μ') = .ok d μ2 := by
  rw [leave_gen]
  split <;> exact ⟨_, rfl⟩
theorem names_lc (ns : List Int) (e : List (Option D)) (he : e.length = 12) : lcS (evE P (run P 60) (.lit (.bl true))) (evE P (run P 60) (.call 73 (.acons (.var 0) (.acons (.var 13) .anil)) [])) (.nm 13) [13] .rng1 [.int 4] true (some (.lst (ns.map D.int)) :: (e ++ [none])) [] = .ok (.lst [.str (nameS ns 0), .str (nameS ns 1), .str (nameS ns 2), .str (nameS ns 3)]) [] := by
  have hr : inR 4 = true := by decide
  have h := lcS_map (cond := evE P (run P 60) (.lit (.bl true))) (elt := evE P (run P 60) (.call 73 (.acons (.var 0) (.acons (.var 13) .anil)) [])) (tg := .nm 13) (own := [13]) (k := .rng1) (ds := [.int 4]) (xs := (List.range (4 : Int).toNat).map fun (i : Nat) => D.int (i : Int)) (env := some (.lst (ns.map D.int)) :: (e ++ [none])) (μ := []) (fun d => match d with
    | .int i => .str (nameS ns i.toNat)
    | d => d) (it_rng1 _ _ hr) (fun ys => stay_rng1 _ _ _ hr) (by decide)
    (fun x hx => by
      obtain ⟨k, hk, rfl⟩ := List.mem_map.mp hx
      have hk : k < 4 := by simpa using hk
      have nr := fun μ => name_run ns k 58 μ (by omega)
      obtain ⟨a, b, c, d, e1, f, g, h, i, j, k', l, rfl⟩ : ∃ a b c d e1 f g h i j k' l, e = [a, b, c, d, e1, f, g, h, i, j, k', l] := by
        match e, he with
        | [a, b, c, d, e1, f, g, h, i, j, k', l], _ => exact ⟨a, b, c, d, e1, f, g, h, i, j, k', l, rfl⟩
      refine ⟨[some (.lst (ns.map D.int)), a, b, c, d, e1, f, g, h, i, j, k', l, some (.int (k : Int))], by simp [wipeE], fun ys => ⟨by simp, ?_⟩⟩
      simp [nr])
    (by simp [List.range, List.range.loop])
  have e4 : List.map (fun d => match d with
    | D.int i => D.str (nameS ns i.toNat)
    | d => d) ((List.range (4 : Int).toNat).map fun (i : Nat) => D.int (i : Int)) = [.str (nameS ns 0), .str (nameS ns 1), .str (nameS ns 2), .str (nameS ns 3)] := rfl
  rw [e4] at h
  exact h
end K67

set_option linter.all false
set_option maxRecDepth 100000
namespace K67
open PySem L2 Co Tx
theorem law_run (ns : List Int) : ∃ μ, run P 61 77 [.lst (ns.map D.int)] [] = .ok (.bl true) μ := by
  have ok := pp_ok ns
  have sz0 := size0 ns
  obtain ⟨p1, p2, m1, m2⟩ := many_b ns
  obtain ⟨ob1, ob2, ob3⟩ := oth_b ns
  obtain ⟨nb1, nb2⟩ := num_b ns
  obtain ⟨c10, c11⟩ := cellZ_b ns 1
  obtain ⟨c30, c31⟩ := cellZ_b ns 3
  have c1 : ∀ μ, run P 60 72 [.lst (ns.map D.int), .int 1] μ = .ok (.int (cellZ ns 1)) μ := fun μ => cell_run ns 1 59 μ
  have c2 : ∀ μ, run P 60 72 [.lst (ns.map D.int), .int 2] μ = .ok (.int (cellZ ns 2)) μ := fun μ => cell_run ns 2 59 μ
  have c3 : ∀ μ, run P 60 72 [.lst (ns.map D.int), .int 3] μ = .ok (.int (cellZ ns 3)) μ := fun μ => cell_run ns 3 59 μ
  have c4 : ∀ μ, run P 60 72 [.lst (ns.map D.int), .int 4] μ = .ok (.int (cellZ ns 4)) μ := fun μ => cell_run ns 4 59 μ
  have c5 : ∀ μ, run P 60 72 [.lst (ns.map D.int), .int 5] μ = .ok (.int (cellZ ns 5)) μ := fun μ => cell_run ns 5 59 μ
  have mb1 : mulB (cellZ ns 1) 48271 = true := mulB_s (by omega) (by omega) (by omega) (by omega)
  have mb2 : mulB 2 1000000000000000000 = true := by decide
  have mb3 : mulB (cellZ ns 3) 982451653 = true := mulB_s (by omega) (by omega) (by omega) (by omega)
  have mb4 : mulB (cellZ ns 3 * 982451653) 1000000000000 = true := mulB_s (by omega) (by omega) (by omega) (by omega)
  have p18 := pow18
  have p12 := pow12
  have hpw : (62 : Int) + cellZ ns 2 % 5 = (pwN ns : Int) := by unfold pwN; omega
  have sh : ∀ μ : Store, binS μ .shl (.int 1) (.int (pwN ns : Int)) = .ok (.int (manyZ ns)) μ := fun μ => by
    have hb : powB 1 (pwN ns : Int) = true := decide_eq_true ⟨by omega, by omega, by decide⟩
    have e : (1 : Int) * 2 ^ ((pwN ns : Int)).toNat = manyZ ns := by
      rw [Int.toNat_natCast, Int.one_mul]
      rfl
    show (if powB 1 (pwN ns : Int) then Res.ok (D.int ((1 : Int) * 2 ^ ((pwN ns : Int)).toNat)) μ else .bad) = _
    rw [hb, e]
    rfl
  have nl := names_lc ns (List.replicate 12 none) rfl
  have pr : ∀ μ, run P 60 74 [.lst [.str (nameS ns 0), .str (nameS ns 1), .str (nameS ns 2), .str (nameS ns 3)], .int (loZ ns), .int (manyZ ns), .int (numZ ns)] μ = .ok (papD (pp ns)) μ := fun μ => paper_run (p := pp ns) 57 (manyZ ns) rfl μ
  have cm : ∀ μ, noClo μ = true → run P 60 67 [papD (pp ns), .str (nameS ns 1), .int 64] μ = .ok (lookD (pp ns) 64 none (rowsN (pp ns) 1)) μ := fun μ hμ => come_run ok 47 64 (by omega) μ hμ
  have mt : ∀ μ, noClo μ = true → run P 60 68 [papD (pp ns), .str (nameS ns 2), .int 64] μ = .ok (lookD (pp ns) 64 none (rowsN (pp ns) 2)) μ := fun μ hμ => met_run ok 47 64 (by omega) μ hμ
  have tw : ∀ μ, noClo μ = true → run P 60 69 [papD (pp ns), .str "only", .int 64] μ = .ok (lookD (pp ns) 64 none (rowsN (pp ns) 2)) μ := fun μ hμ => two_run ok 47 64 (by omega) μ hμ
  have en : ∀ q : Nat, q ≤ 64 → ∀ μ, noClo μ = true → run P 60 71 [papD (pp ns), .lst [], .int (q : Int)] μ = .ok (lookD (pp ns) q none (rowsN (pp ns) 2)) μ := fun q hq μ hμ => ending_run ok 46 q hq .nil trivial μ hμ
  have en64 : ∀ μ, noClo μ = true → run P 60 71 [papD (pp ns), .lst [], .int 64] μ = .ok (lookD (pp ns) 64 none (rowsN (pp ns) 2)) μ := en 64 (by omega)
  have cv : ∀ μ, noClo μ = true → run P 60 49 [papD (pp ns), .int 64, .non] μ = .ok (.lst (ndL (pp ns) (cvF (pp ns) 64 none))) μ := fun μ hμ => cover_run ok 49 64 (by omega) none (in0 ok) .non (.inl ⟨rfl, rfl⟩) μ hμ
  have eo : ∀ μ, noClo μ = true → run P 60 71 [papD (pp ns), .lst [.tup [.str (nameS ns 0), .str "", .int (othZ ns)]], .int 64] μ = .ok (.tup [.str "shut", .lst [lvD (pp ns) (some (othZ ns, othZ ns))]]) μ := fun μ hμ => by
    have h : run P 60 71 [papD (pp ns), .lst [.tup [.str (nameS ns 0), .str "", .int (othZ ns)]], .int 64] μ = _ := ending_run ok 46 64 (by omega) (.key (othZ ns)) ⟨ob1, ob2⟩ μ hμ
    rw [h]
    have := look_key (p := pp ns) 64 (othZ ns)
    rw [if_neg (show ¬ othZ ns = (pp ns).num from ob3)] at this
    rw [← this]
    rfl
  have ef : ∀ μ, noClo μ = true → run P 60 71 [papD (pp ns), .lst [.tup [.str (nameS ns 0), .str "", .int (numZ ns)]], .int 64] μ = .ok (.tup [.str "row", .lst (rowsN (pp ns) 2)]) μ := fun μ hμ => by
    have h : run P 60 71 [papD (pp ns), .lst [.tup [.str (nameS ns 0), .str "", .int (numZ ns)]], .int 64] μ = _ := ending_run ok 46 64 (by omega) (.key (numZ ns)) ⟨nb1, nb2⟩ μ hμ
    rw [h]
    have := look_key (p := pp ns) 64 (numZ ns)
    rw [if_pos (show numZ ns = (pp ns).num from rfl)] at this
    rw [← this]
    rfl
  have r1 : ∀ μ, run P 60 76 [lookD (pp ns) 64 none (rowsN (pp ns) 1), .lst [.tup [.str (nameS ns 0), .str "", .int (numZ ns)]], .int 64, .bl (decide ((pwN ns : Int) ≤ 64))] μ = .ok (.bl true) μ := fun μ => right_run ok 58 64 (pwN ns) (by omega) sz0 1 (.inl rfl) μ
  have r2 : ∀ q : Nat, q ≤ 64 → ∀ μ, run P 60 76 [lookD (pp ns) q none (rowsN (pp ns) 2), .lst [.tup [.str (nameS ns 0), .str "", .int (numZ ns)], .tup [.str (nameS ns 1), .str "", .bl false]], .int (q : Int), .bl (decide ((pwN ns : Int) ≤ q))] μ = .ok (.bl true) μ := fun q hq μ => right_run ok 58 q (pwN ns) hq sz0 2 (.inr rfl) μ
  have r64 : ∀ μ, run P 60 76 [lookD (pp ns) 64 none (rowsN (pp ns) 2), .lst [.tup [.str (nameS ns 0), .str "", .int (numZ ns)], .tup [.str (nameS ns 1), .str "", .bl false]], .int 64, .bl (decide ((pwN ns : Int) ≤ 64))] μ = .ok (.bl true) μ := r2 64 (by omega)
  have cl : ((ndL (pp ns) (cvF (pp ns) 64 none)).length : Int) = 2 * (if (pwN ns : Int) < 64 then (pwN ns : Int) else 64) + 1 := cover_len ok 64 (pwN ns) sz0
  have mn : ∀ μ : Store, biS μ .min [.int 64, .int (pwN ns : Int)] = .ok (.int (if (pwN ns : Int) < 64 then (pwN ns : Int) else 64)) μ := fun μ => rfl
  have hW : ∃ W : Int, (if (pwN ns : Int) < 64 then (pwN ns : Int) else 64) = W ∧ 0 ≤ W ∧ W ≤ 100 := ⟨_, rfl, by split <;> omega, by split <;> omega⟩
  obtain ⟨W, hW, w1, w2⟩ := hW
  rw [hW] at cl mn
  have mbW : mulB 2 W = true := mulB_s (by omega) (by omega) (by omega) (by omega)
  obtain ⟨q, hq⟩ : ∃ q : Nat, (63 : Int) + cellZ ns 4 % 2 = (q : Int) := ⟨(63 + cellZ ns 4 % 2).toNat, by omega⟩
  have hq64 : q ≤ 64 := by omega
  have enq := en q hq64
  have rq := r2 q hq64
  simp only [Int.ofNat_le] at rq
  have er := eq_row (p := pp ns) 2 (.inr rfl)
  have er : ∀ μ : Store, eqS μ (.tup [.str "row", .lst (rowsN (pp ns) 2)]) (.tup [.str "row", .lst [.tup [.str (nameS ns 0), .str "", .int (numZ ns)], .tup [.str (nameS ns 1), .str "", .bl false]]]) = some true := er
  have lowE : cellZ ns 1 * 48271 % 2000000000000000000 - 1000000000000000000 = loZ ns := rfl
  have numE : loZ ns + cellZ ns 3 * 982451653 * 1000000000000 % manyZ ns = numZ ns := rfl
  have othE : loZ ns + (numZ ns - loZ ns + 1 + cellZ ns 5 % (manyZ ns - 1)) % manyZ ns = othZ ns := rfl
  have mp : 0 < manyZ ns := by omega
  have mp1 : 0 < manyZ ns - 1 := by omega
  have mp2 : 1 < manyZ ns := by omega
  have i1 : ∀ (μ : Store) l, isiS P.sub μ (.tup l) [.tuple] = some true := fun μ l => rfl
  have ad : ∀ (μ : Store) (x y : D), binS μ .add (.lst [x]) (.lst [y]) = .ok (.lst [x, y]) μ := fun μ x y => by
    have : sz 2 = true := by decide
    simp [binS, this]
  have lt1 : ∀ n, (lookD (pp ns) 64 none (rowsN (pp ns) 2)).lt n = true := fun n => lookD_lt n 64 none 2
  clear en r2
  generalize lookD (pp ns) 64 none (rowsN (pp ns) 1) = L1 at *
  generalize lookD (pp ns) 64 none (rowsN (pp ns) 2) = L2 at *
  generalize lookD (pp ns) q none (rowsN (pp ns) 2) = L3 at *
  generalize rowsN (pp ns) 2 = RN at *
  generalize hlv : lvD (pp ns) (some (othZ ns, othZ ns)) = LV at *
  simp only [List.replicate, List.cons_append, List.nil_append] at nl
  have e : Co.fin (evS P (run P 60) b_law [some (D.lst (ns.map D.int)), none, none, none, none, none, none, none, none, none, none, none, none, none] []) = .ok (.bl true) [] := by
    have rg : ∀ (μ : Store) d, walkedC μ .rng1 [d] = none := fun μ d => rfl
    simp [b_law, nl, c1, c2, c3, c4, c5, binS_mod, binS_mul _ _ _ mb1, binS_mul _ _ _ mb2, binS_mul _ _ _ mb3, binS_mul _ _ _ mb4, p18, p12, lowE, hpw, sh, mp, numE, pr, ad, cm, r1, mt, tw, en64, r64, cv, cl, mn, binS_mul _ _ _ mbW, hq, enq, rq, mp1, mp2, othE, eo, i1, ef, er]
  show ∃ μ, leave [] (Co.fin (evS P (run P 60) b_law [some (D.lst (ns.map D.int)), none, none, none, none, none, none, none, none, none, none, none, none, none] [])) = _
  rw [e]
  exact leave_ex _ _ _
end K67

set_option linter.all false
set_option maxRecDepth 100000
namespace Hd
open PySem L2 Co Tx
theorem hrun (ns : List Int) (h : ns.length ≤ 63) : ∃ μ, Co.run P 61 f_law [.lst (ns.map D.int)] [] = .ok (.bl true) μ := K67.law_run ns
end Hd

set_option Elab.async false
set_option linter.all false
set_option maxRecDepth 100000
set_option maxHeartbeats 0
namespace Tx
open PySem L2 Co
def fnm0 : List (Str × Nat) := [("is_whole", 1), ("is_name", 2), ("kinds_of", 21), ("put_in", 22), ("put_together", 23), ("compared", 24), ("spanned", 25), ("span_in", 32), ("cut_for", 33), ("going_by", 46), ("parts_of_box", 47), ("ranges_of", 48), ("cover", 49), ("worth", 50), ("reckon", 51), ("total_of", 52), ("straight", 61), ("leaves_of", 62), ("eaches_of", 63), ("row_by", 64), ("none_comes", 65), ("first_row", 66), ("come_to", 67), ("met", 68), ("two_ways", 69)]
def fnm1 : List (Str × Nat) := [("counted_in", 70), ("ending", 71), ("_law_cell", 72), ("_law_name", 73), ("_law_paper", 74), ("_law_unknown", 75), ("_law_right", 76), ("law", 77)]
def fnm : List (Str × Nat) := fnm0 ++ fnm1
def cnm : List (Str × Nat) := [("Kind", 0), ("YesNo", 1), ("Whole", 2), ("Money", 3), ("Names", 4), ("Row", 5), ("Ask", 6), ("Check", 7), ("Sheet", 8), ("Paper", 9), ("Saying", 10), ("Compare", 11), ("Boxed", 12), ("Walk", 13), ("AskError", 14), ("NoNumber", 15), ("NoAnswer", 16), ("WrongKind", 17)]
def gnm : List (Str × Nat) := [("LETTERS", 0), ("FIGURES", 1), ("NO_NAMES", 2), ("LONGEST_NAME", 3), ("SAMPLES", 4)]
def mnm : List Str := ["atoms", "sure", "sum_span", "key", "look", "settled", "part_at", "first_open", "agreed", "checked", "asked", "turns_of", "through", "way_out", "sheet_done", "holds", "fits", "rank", "things", "sample"]
def fld : List Str := ["name", "low", "high", "kind", "when", "test", "firm", "each", "rows", "ways", "sheets", "totals", "how", "number", "place", "paper", "box", "kinds", "added", "again", "log", "spans", "places", "doubles", "parted", "book", "ranks", "tallied"]
def tx : Co.Tx := ⟨fnm, cnm, gnm, mnm, fld⟩
def top (i : Nat) : Stmt := PySem.Challenge.pw_askpaper_k67_most_left_out.main.body.getD i (.Pass ⟨0, 0, 0, 0⟩)
def e_WrongKind___init__ : List D := []
def d_WrongKind___init__ : He.DefD := ⟨("WrongKind", some "__init__"), "__init__", "WrongKind.__init__", defArgs (inClass (top 4) 0), defBody (inClass (top 4) 0), defScope (inClass (top 4) 0), e_WrongKind___init__.map dDv, []⟩
def n_WrongKind___init__ : List Str := ["self", "name"]
def p_WrongKind___init__ : List Str := ["self", "name"]
def e_is_whole : List D := []
def d_is_whole : He.DefD := ⟨("is_whole", none), "is_whole", "is_whole", defArgs (top 10), defBody (top 10), defScope (top 10), e_is_whole.map dDv, []⟩
def n_is_whole : List Str := ["thing"]
def p_is_whole : List Str := ["thing"]
def e_is_name : List D := []
def d_is_name : He.DefD := ⟨("is_name", none), "is_name", "is_name", defArgs (top 11), defBody (top 11), defScope (top 11), e_is_name.map dDv, []⟩
def n_is_name : List Str := ["thing", "sign"]
def p_is_name : List Str := ["thing"]
def e_Kind___init__ : List D := []
def d_Kind___init__ : He.DefD := ⟨("Kind", some "__init__"), "__init__", "Kind.__init__", defArgs (inClass (top 16) 0), defBody (inClass (top 16) 0), defScope (inClass (top 16) 0), e_Kind___init__.map dDv, []⟩
def n_Kind___init__ : List Str := ["self", "low", "high"]
def p_Kind___init__ : List Str := ["self", "low", "high"]
def e_Kind_fits : List D := []
def d_Kind_fits : He.DefD := ⟨("Kind", some "fits"), "fits", "Kind.fits", defArgs (inClass (top 16) 1), defBody (inClass (top 16) 1), defScope (inClass (top 16) 1), e_Kind_fits.map dDv, []⟩
def n_Kind_fits : List Str := ["self", "thing"]
def p_Kind_fits : List Str := ["self", "thing"]
def e_YesNo___init__ : List D := []
def d_YesNo___init__ : He.DefD := ⟨("YesNo", some "__init__"), "__init__", "YesNo.__init__", defArgs (inClass (top 17) 0), defBody (inClass (top 17) 0), defScope (inClass (top 17) 0), e_YesNo___init__.map dDv, []⟩
def n_YesNo___init__ : List Str := ["self"]
def p_YesNo___init__ : List Str := ["self"]
def e_YesNo_fits : List D := []
def d_YesNo_fits : He.DefD := ⟨("YesNo", some "fits"), "fits", "YesNo.fits", defArgs (inClass (top 17) 1), defBody (inClass (top 17) 1), defScope (inClass (top 17) 1), e_YesNo_fits.map dDv, []⟩
def n_YesNo_fits : List Str := ["self", "thing"]
def p_YesNo_fits : List Str := ["self", "thing"]
def e_YesNo_rank : List D := []
def d_YesNo_rank : He.DefD := ⟨("YesNo", some "rank"), "rank", "YesNo.rank", defArgs (inClass (top 17) 4), defBody (inClass (top 17) 4), defScope (inClass (top 17) 4), e_YesNo_rank.map dDv, []⟩
def n_YesNo_rank : List Str := ["self", "answer"]
def p_YesNo_rank : List Str := ["self", "answer"]
def e_YesNo_sample : List D := []
def d_YesNo_sample : He.DefD := ⟨("YesNo", some "sample"), "sample", "YesNo.sample", defArgs (inClass (top 17) 5), defBody (inClass (top 17) 5), defScope (inClass (top 17) 5), e_YesNo_sample.map dDv, []⟩
def n_YesNo_sample : List Str := ["self", "rank"]
def p_YesNo_sample : List Str := ["self", "rank"]
def e_Whole_fits : List D := []
def d_Whole_fits : He.DefD := ⟨("Whole", some "fits"), "fits", "Whole.fits", defArgs (inClass (top 18) 0), defBody (inClass (top 18) 0), defScope (inClass (top 18) 0), e_Whole_fits.map dDv, []⟩
def n_Whole_fits : List Str := ["self", "thing"]
def p_Whole_fits : List Str := ["self", "thing"]
def e_Whole_rank : List D := []
def d_Whole_rank : He.DefD := ⟨("Whole", some "rank"), "rank", "Whole.rank", defArgs (inClass (top 18) 3), defBody (inClass (top 18) 3), defScope (inClass (top 18) 3), e_Whole_rank.map dDv, []⟩
def n_Whole_rank : List Str := ["self", "answer"]
def p_Whole_rank : List Str := ["self", "answer"]
def e_Whole_sample : List D := []
def d_Whole_sample : He.DefD := ⟨("Whole", some "sample"), "sample", "Whole.sample", defArgs (inClass (top 18) 4), defBody (inClass (top 18) 4), defScope (inClass (top 18) 4), e_Whole_sample.map dDv, []⟩
def n_Whole_sample : List Str := ["self", "rank"]
def p_Whole_sample : List Str := ["self", "rank"]
def e_Names___init__ : List D := [(.int 3)]
def d_Names___init__ : He.DefD := ⟨("Names", some "__init__"), "__init__", "Names.__init__", defArgs (inClass (top 21) 0), defBody (inClass (top 21) 0), defScope (inClass (top 21) 0), e_Names___init__.map dDv, []⟩
def n_Names___init__ : List Str := ["self", "most"]
def p_Names___init__ : List Str := ["self", "most"]
def e_Names_fits : List D := []
def d_Names_fits : He.DefD := ⟨("Names", some "fits"), "fits", "Names.fits", defArgs (inClass (top 21) 1), defBody (inClass (top 21) 1), defScope (inClass (top 21) 1), e_Names_fits.map dDv, []⟩
def n_Names_fits : List Str := ["self", "thing", "name"]
def p_Names_fits : List Str := ["self", "thing"]
def e_Names_rank : List D := []
def d_Names_rank : He.DefD := ⟨("Names", some "rank"), "rank", "Names.rank", defArgs (inClass (top 21) 4), defBody (inClass (top 21) 4), defScope (inClass (top 21) 4), e_Names_rank.map dDv, []⟩
def n_Names_rank : List Str := ["self", "answer"]
def p_Names_rank : List Str := ["self", "answer"]
def e_Names_sample : List D := []
def d_Names_sample : He.DefD := ⟨("Names", some "sample"), "sample", "Names.sample", defArgs (inClass (top 21) 5), defBody (inClass (top 21) 5), defScope (inClass (top 21) 5), e_Names_sample.map dDv, []⟩
def n_Names_sample : List Str := ["self", "rank"]
def p_Names_sample : List Str := ["self", "rank"]
def e_Row___init__ : List D := []
def d_Row___init__ : He.DefD := ⟨("Row", some "__init__"), "__init__", "Row.__init__", defArgs (inClass (top 23) 0), defBody (inClass (top 23) 0), defScope (inClass (top 23) 0), e_Row___init__.map dDv, []⟩
def n_Row___init__ : List Str := ["self", "name"]
def p_Row___init__ : List Str := ["self", "name"]
def e_Ask___init__ : List D := [.non]
def d_Ask___init__ : He.DefD := ⟨("Ask", some "__init__"), "__init__", "Ask.__init__", defArgs (inClass (top 24) 0), defBody (inClass (top 24) 0), defScope (inClass (top 24) 0), e_Ask___init__.map dDv, []⟩
def n_Ask___init__ : List Str := ["self", "name", "kind", "when"]
def p_Ask___init__ : List Str := ["self", "name", "kind", "when"]
def e_Check___init__ : List D := [(.bl true)]
def d_Check___init__ : He.DefD := ⟨("Check", some "__init__"), "__init__", "Check.__init__", defArgs (inClass (top 25) 0), defBody (inClass (top 25) 0), defScope (inClass (top 25) 0), e_Check___init__.map dDv, []⟩
def n_Check___init__ : List Str := ["self", "name", "test", "firm"]
def p_Check___init__ : List Str := ["self", "name", "test", "firm"]
def e_Sheet___init__ : List D := []
def d_Sheet___init__ : He.DefD := ⟨("Sheet", some "__init__"), "__init__", "Sheet.__init__", defArgs (inClass (top 26) 0), defBody (inClass (top 26) 0), defScope (inClass (top 26) 0), e_Sheet___init__.map dDv, []⟩
def n_Sheet___init__ : List Str := ["self", "name", "each", "rows", "ways"]
def p_Sheet___init__ : List Str := ["self", "name", "each", "rows", "ways"]
def e_Paper___init__ : List D := []
def d_Paper___init__ : He.DefD := ⟨("Paper", some "__init__"), "__init__", "Paper.__init__", defArgs (inClass (top 27) 0), defBody (inClass (top 27) 0), defScope (inClass (top 27) 0), e_Paper___init__.map dDv, []⟩
def n_Paper___init__ : List Str := ["self", "name", "sheets", "totals"]
def p_Paper___init__ : List Str := ["self", "name", "sheets", "totals"]
def e_kinds_of : List D := []
def d_kinds_of : He.DefD := ⟨("kinds_of", none), "kinds_of", "kinds_of", defArgs (top 29), defBody (top 29), defScope (top 29), e_kinds_of.map dDv, []⟩
def n_kinds_of : List Str := ["paper", "kinds", "sheet", "row"]
def p_kinds_of : List Str := ["paper"]
def e_put_in : List D := []
def d_put_in : He.DefD := ⟨("put_in", none), "put_in", "put_in", defArgs (top 30), defBody (top 30), defScope (top 30), e_put_in.map dDv, []⟩
def n_put_in : List Str := ["totals", "name", "known", "times", "part", "terms", "plus", "question", "many"]
def p_put_in : List Str := ["totals", "name", "known"]
def e_put_together : List D := []
def d_put_together : He.DefD := ⟨("put_together", none), "put_together", "put_together", defArgs (top 31), defBody (top 31), defScope (top 31), e_put_together.map dDv, []⟩
def n_put_together : List Str := ["paper", "name", "known", "terms", "plus", "question", "many"]
def p_put_together : List Str := ["paper", "name"]
def e_compared : List D := []
def d_compared : He.DefD := ⟨("compared", none), "compared", "compared", defArgs (top 33), defBody (top 33), defScope (top 33), e_compared.map dDv, []⟩
def n_compared : List Str := ["how", "rank", "number"]
def p_compared : List Str := ["how", "rank", "number"]
def e_spanned : List D := []
def d_spanned : He.DefD := ⟨("spanned", none), "spanned", "spanned", defArgs (top 34), defBody (top 34), defScope (top 34), e_spanned.map dDv, []⟩
def n_spanned : List Str := ["span", "how", "number", "low", "high", "first", "last"]
def p_spanned : List Str := ["span", "how", "number"]
def e_Saying_atoms : List D := []
def d_Saying_atoms : He.DefD := ⟨("Saying", some "atoms"), "atoms", "Saying.atoms", defArgs (inClass (top 35) 0), defBody (inClass (top 35) 0), defScope (inClass (top 35) 0), e_Saying_atoms.map dDv, []⟩
def n_Saying_atoms : List Str := ["self"]
def p_Saying_atoms : List Str := ["self"]
def e_Saying_first_open : List D := []
def d_Saying_first_open : He.DefD := ⟨("Saying", some "first_open"), "first_open", "Saying.first_open", defArgs (inClass (top 35) 1), defBody (inClass (top 35) 1), defScope (inClass (top 35) 1), e_Saying_first_open.map dDv, []⟩
def n_Saying_first_open : List Str := ["self", "look", "atom"]
def p_Saying_first_open : List Str := ["self", "look"]
def e_Compare___init__ : List D := []
def d_Compare___init__ : He.DefD := ⟨("Compare", some "__init__"), "__init__", "Compare.__init__", defArgs (inClass (top 36) 0), defBody (inClass (top 36) 0), defScope (inClass (top 36) 0), e_Compare___init__.map dDv, []⟩
def n_Compare___init__ : List Str := ["self", "name", "how", "number"]
def p_Compare___init__ : List Str := ["self", "name", "how", "number"]
def e_Compare_settled : List D := []
def d_Compare_settled : He.DefD := ⟨("Compare", some "settled"), "settled", "Compare.settled", defArgs (inClass (top 36) 2), defBody (inClass (top 36) 2), defScope (inClass (top 36) 2), e_Compare_settled.map dDv, []⟩
def n_Compare_settled : List Str := ["self", "kinds"]
def p_Compare_settled : List Str := ["self", "kinds"]
def e_Compare_holds : List D := []
def d_Compare_holds : He.DefD := ⟨("Compare", some "holds"), "holds", "Compare.holds", defArgs (inClass (top 36) 3), defBody (inClass (top 36) 3), defScope (inClass (top 36) 3), e_Compare_holds.map dDv, []⟩
def n_Compare_holds : List Str := ["self", "look", "rank"]
def p_Compare_holds : List Str := ["self", "look"]
def e_Compare_sure : List D := []
def d_Compare_sure : He.DefD := ⟨("Compare", some "sure"), "sure", "Compare.sure", defArgs (inClass (top 36) 4), defBody (inClass (top 36) 4), defScope (inClass (top 36) 4), e_Compare_sure.map dDv, []⟩
def n_Compare_sure : List Str := ["self", "look"]
def p_Compare_sure : List Str := ["self", "look"]
def e_span_in : List D := []
def d_span_in : He.DefD := ⟨("span_in", none), "span_in", "span_in", defArgs (top 38), defBody (top 38), defScope (top 38), e_span_in.map dDv, []⟩
def n_span_in : List Str := ["kinds", "box", "question", "k", "kind"]
def p_span_in : List Str := ["kinds", "box", "question", "k"]
def e_cut_for : List D := []
def d_cut_for : He.DefD := ⟨("cut_for", none), "cut_for", "cut_for", defArgs (top 39), defBody (top 39), defScope (top 39), e_cut_for.map dDv, []⟩
def n_cut_for : List Str := ["atom", "low", "high", "how", "number"]
def p_cut_for : List Str := ["atom", "low", "high"]
def e_Boxed___init__ : List D := []
def d_Boxed___init__ : He.DefD := ⟨("Boxed", some "__init__"), "__init__", "Boxed.__init__", defArgs (inClass (top 40) 0), defBody (inClass (top 40) 0), defScope (inClass (top 40) 0), e_Boxed___init__.map dDv, []⟩
def n_Boxed___init__ : List Str := ["self", "paper", "box", "name", "parts", "sheet", "row"]
def p_Boxed___init__ : List Str := ["self", "paper", "box"]
def e_Boxed_key : List D := []
def d_Boxed_key : He.DefD := ⟨("Boxed", some "key"), "key", "Boxed.key", defArgs (inClass (top 40) 1), defBody (inClass (top 40) 1), defScope (inClass (top 40) 1), e_Boxed_key.map dDv, []⟩
def n_Boxed_key : List Str := ["self", "name", "k"]
def p_Boxed_key : List Str := ["self", "name", "k"]
def e_Boxed_sum_span : List D := []
def d_Boxed_sum_span : He.DefD := ⟨("Boxed", some "sum_span"), "sum_span", "Boxed.sum_span", defArgs (inClass (top 40) 2), defBody (inClass (top 40) 2), defScope (inClass (top 40) 2), e_Boxed_sum_span.map dDv, []⟩
def n_Boxed_sum_span : List Str := ["self", "name", "terms", "low", "high", "times", "question", "k", "first", "last"]
def p_Boxed_sum_span : List Str := ["self", "name"]
def e_Boxed_look : List D := []
def d_Boxed_look : He.DefD := ⟨("Boxed", some "look"), "look", "Boxed.look", defArgs (inClass (top 40) 3), defBody (inClass (top 40) 3), defScope (inClass (top 40) 3), e_Boxed_look.map dDv, []⟩
def n_Boxed_look : List Str := ["self", "name", "k"]
def p_Boxed_look : List Str := ["self", "name", "k"]
def e_Boxed_part_at : List D := []
def d_Boxed_part_at : He.DefD := ⟨("Boxed", some "part_at"), "part_at", "Boxed.part_at", defArgs (inClass (top 40) 4), defBody (inClass (top 40) 4), defScope (inClass (top 40) 4), e_Boxed_part_at.map dDv, []⟩
def n_Boxed_part_at : List Str := ["self", "atom", "k", "low", "high", "where", "times", "question", "place"]
def p_Boxed_part_at : List Str := ["self", "atom", "k"]
def e_Boxed_agreed : List D := []
def d_Boxed_agreed : He.DefD := ⟨("Boxed", some "agreed"), "agreed", "Boxed.agreed", defArgs (inClass (top 40) 5), defBody (inClass (top 40) 5), defScope (inClass (top 40) 5), e_Boxed_agreed.map dDv, []⟩
def n_Boxed_agreed : List Str := ["self", "saying", "k", "known"]
def p_Boxed_agreed : List Str := ["self", "saying", "k"]
def e_Boxed_asked : List D := []
def d_Boxed_asked : He.DefD := ⟨("Boxed", some "asked"), "asked", "Boxed.asked", defArgs (inClass (top 40) 6), defBody (inClass (top 40) 6), defScope (inClass (top 40) 6), e_Boxed_asked.map dDv, []⟩
def n_Boxed_asked : List Str := ["self", "row", "k"]
def p_Boxed_asked : List Str := ["self", "row", "k"]
def e_Boxed_checked : List D := []
def d_Boxed_checked : He.DefD := ⟨("Boxed", some "checked"), "checked", "Boxed.checked", defArgs (inClass (top 40) 7), defBody (inClass (top 40) 7), defScope (inClass (top 40) 7), e_Boxed_checked.map dDv, []⟩
def n_Boxed_checked : List Str := ["self", "row", "k", "known"]
def p_Boxed_checked : List Str := ["self", "row", "k", "known"]
def e_Boxed_through : List D := []
def d_Boxed_through : He.DefD := ⟨("Boxed", some "through"), "through", "Boxed.through", defArgs (inClass (top 40) 8), defBody (inClass (top 40) 8), defScope (inClass (top 40) 8), e_Boxed_through.map dDv, []⟩
def n_Boxed_through : List Str := ["self", "sheet", "k", "row", "saying", "known"]
def p_Boxed_through : List Str := ["self", "sheet", "k"]
def e_Boxed_turns_of : List D := []
def d_Boxed_turns_of : He.DefD := ⟨("Boxed", some "turns_of"), "turns_of", "Boxed.turns_of", defArgs (inClass (top 40) 9), defBody (inClass (top 40) 9), defScope (inClass (top 40) 9), e_Boxed_turns_of.map dDv, []⟩
def n_Boxed_turns_of : List Str := ["self", "sheet", "low", "high"]
def p_Boxed_turns_of : List Str := ["self", "sheet"]
def e_Boxed_way_out : List D := []
def d_Boxed_way_out : He.DefD := ⟨("Boxed", some "way_out"), "way_out", "Boxed.way_out", defArgs (inClass (top 40) 10), defBody (inClass (top 40) 10), defScope (inClass (top 40) 10), e_Boxed_way_out.map dDv, []⟩
def n_Boxed_way_out : List Str := ["self", "sheet", "targets", "target", "saying", "known"]
def p_Boxed_way_out : List Str := ["self", "sheet"]
def e_Boxed_sheet_done : List D := []
def d_Boxed_sheet_done : He.DefD := ⟨("Boxed", some "sheet_done"), "sheet_done", "Boxed.sheet_done", defArgs (inClass (top 40) 11), defBody (inClass (top 40) 11), defScope (inClass (top 40) 11), e_Boxed_sheet_done.map dDv, []⟩
def n_Boxed_sheet_done : List Str := ["self", "sheet", "turns", "k"]
def p_Boxed_sheet_done : List Str := ["self", "sheet"]
def e_going_by : List D := []
def d_going_by : He.DefD := ⟨("going_by", none), "going_by", "going_by", defArgs (top 41), defBody (top 41), defScope (top 41), e_going_by.map dDv, []⟩
def n_going_by : List Str := ["paper", "box", "going", "aim", "sheet", "targets"]
def p_going_by : List Str := ["paper", "box"]
def e_parts_of_box : List D := []
def d_parts_of_box : He.DefD := ⟨("parts_of_box", none), "parts_of_box", "parts_of_box", defArgs (top 43), defBody (top 43), defScope (top 43), e_parts_of_box.map dDv, []⟩
def n_parts_of_box : List Str := ["kinds", "box", "question", "k", "cut", "low", "high", "below", "above"]
def p_parts_of_box : List Str := ["kinds", "box", "question", "k", "cut"]
def e_ranges_of : List D := []
def d_ranges_of : He.DefD := ⟨("ranges_of", none), "ranges_of", "ranges_of", defArgs (top 44), defBody (top 44), defScope (top 44), e_ranges_of.map dDv, []⟩
def n_ranges_of : List Str := ["kinds", "box", "log", "found", "row", "low", "high"]
def p_ranges_of : List Str := ["kinds", "box", "log"]
def e_cover : List D := [(.int 64), .non]
def d_cover : He.DefD := ⟨("cover", none), "cover", "cover", defArgs (top 45), defBody (top 45), defScope (top 45), e_cover.map dDv, []⟩
def n_cover : List Str := ["paper", "most", "fixed", "kinds", "boxes", "nodes", "splits", "box", "sure", "log", "doubles", "parted", "question", "k", "cut"]
def p_cover : List Str := ["paper", "most", "fixed"]
def e_worth : List D := []
def d_worth : He.DefD := ⟨("worth", none), "worth", "worth", defArgs (top 47), defBody (top 47), defScope (top 47), e_worth.map dDv, []⟩
def n_worth : List Str := ["parts", "look", "total", "times", "name"]
def p_worth : List Str := ["parts", "look"]
def e_reckon : List D := []
def d_reckon : He.DefD := ⟨("reckon", none), "reckon", "reckon", defArgs (top 49), defBody (top 49), defScope (top 49), e_reckon.map dDv, []⟩
def n_reckon : List Str := ["totals", "counted", "known", "name", "times", "part"]
def p_reckon : List Str := ["totals", "counted", "known", "name"]
def e_total_of : List D := []
def d_total_of : He.DefD := ⟨("total_of", none), "total_of", "total_of", defArgs (top 50), defBody (top 50), defScope (top 50), e_total_of.map dDv, []⟩
def n_total_of : List Str := ["totals", "counted", "name", "known"]
def p_total_of : List Str := ["totals", "counted", "name"]
def e_Walk___init__ : List D := []
def d_Walk___init__ : He.DefD := ⟨("Walk", some "__init__"), "__init__", "Walk.__init__", defArgs (inClass (top 51) 0), defBody (inClass (top 51) 0), defScope (inClass (top 51) 0), e_Walk___init__.map dDv, []⟩
def n_Walk___init__ : List Str := ["self", "paper", "book"]
def p_Walk___init__ : List Str := ["self", "paper", "book"]
def e_Walk_look : List D := []
def d_Walk_look : He.DefD := ⟨("Walk", some "look"), "look", "Walk.look", defArgs (inClass (top 51) 1), defBody (inClass (top 51) 1), defScope (inClass (top 51) 1), e_Walk_look.map dDv, []⟩
def n_Walk_look : List Str := ["self", "name", "thing", "found"]
def p_Walk_look : List Str := ["self", "name", "thing"]
def e_Walk_agreed : List D := []
def d_Walk_agreed : He.DefD := ⟨("Walk", some "agreed"), "agreed", "Walk.agreed", defArgs (inClass (top 51) 2), defBody (inClass (top 51) 2), defScope (inClass (top 51) 2), e_Walk_agreed.map dDv, []⟩
def n_Walk_agreed : List Str := ["self", "saying", "thing"]
def p_Walk_agreed : List Str := ["self", "saying", "thing"]
def e_Walk_asked : List D := []
def d_Walk_asked : He.DefD := ⟨("Walk", some "asked"), "asked", "Walk.asked", defArgs (inClass (top 51) 3), defBody (inClass (top 51) 3), defScope (inClass (top 51) 3), e_Walk_asked.map dDv, []⟩
def n_Walk_asked : List Str := ["self", "row", "thing", "answer", "rank"]
def p_Walk_asked : List Str := ["self", "row", "thing"]
def e_Walk_checked : List D := []
def d_Walk_checked : He.DefD := ⟨("Walk", some "checked"), "checked", "Walk.checked", defArgs (inClass (top 51) 4), defBody (inClass (top 51) 4), defScope (inClass (top 51) 4), e_Walk_checked.map dDv, []⟩
def n_Walk_checked : List Str := ["self", "row", "thing"]
def p_Walk_checked : List Str := ["self", "row", "thing"]
def e_Walk_through : List D := []
def d_Walk_through : He.DefD := ⟨("Walk", some "through"), "through", "Walk.through", defArgs (inClass (top 51) 5), defBody (inClass (top 51) 5), defScope (inClass (top 51) 5), e_Walk_through.map dDv, []⟩
def n_Walk_through : List Str := ["self", "sheet", "thing", "row"]
def p_Walk_through : List Str := ["self", "sheet", "thing"]
def e_Walk_things : List D := []
def d_Walk_things : He.DefD := ⟨("Walk", some "things"), "things", "Walk.things", defArgs (inClass (top 51) 6), defBody (inClass (top 51) 6), defScope (inClass (top 51) 6), e_Walk_things.map dDv, []⟩
def n_Walk_things : List Str := ["self", "sheet"]
def p_Walk_things : List Str := ["self", "sheet"]
def e_Walk_way_out : List D := []
def d_Walk_way_out : He.DefD := ⟨("Walk", some "way_out"), "way_out", "Walk.way_out", defArgs (inClass (top 51) 7), defBody (inClass (top 51) 7), defScope (inClass (top 51) 7), e_Walk_way_out.map dDv, []⟩
def n_Walk_way_out : List Str := ["self", "sheet", "target", "saying"]
def p_Walk_way_out : List Str := ["self", "sheet"]
def e_straight : List D := []
def d_straight : He.DefD := ⟨("straight", none), "straight", "straight", defArgs (top 52), defBody (top 52), defScope (top 52), e_straight.map dDv, []⟩
def n_straight : List Str := ["paper", "book", "walk", "aim", "sheet", "thing"]
def p_straight : List Str := ["paper", "book"]
def e_leaves_of : List D := []
def d_leaves_of : He.DefD := ⟨("leaves_of", none), "leaves_of", "leaves_of", defArgs (top 54), defBody (top 54), defScope (top 54), e_leaves_of.map dDv, []⟩
def n_leaves_of : List Str := ["nodes", "node"]
def p_leaves_of : List Str := ["nodes"]
def e_eaches_of : List D := []
def d_eaches_of : He.DefD := ⟨("eaches_of", none), "eaches_of", "eaches_of", defArgs (top 55), defBody (top 55), defScope (top 55), e_eaches_of.map dDv, []⟩
def n_eaches_of : List Str := ["paper", "eaches", "sheet", "row"]
def p_eaches_of : List Str := ["paper"]
def e_row_by : List D := []
def d_row_by : He.DefD := ⟨("row_by", none), "row_by", "row_by", defArgs (top 56), defBody (top 56), defScope (top 56), e_row_by.map dDv, []⟩
def n_row_by : List Str := ["paper", "leaf", "many", "kept", "kinds", "eaches", "answers", "found", "question", "k", "low", "high", "answer", "thing"]
def p_row_by : List Str := ["paper", "leaf", "many", "kept"]
def e_none_comes : List D := []
def d_none_comes : He.DefD := ⟨("none_comes", none), "none_comes", "none_comes", defArgs (top 57), defBody (top 57), defScope (top 57), e_none_comes.map dDv, []⟩
def n_none_comes : List Str := ["nodes", "leaf"]
def p_none_comes : List Str := ["nodes"]
def e_first_row : List D := []
def d_first_row : He.DefD := ⟨("first_row", none), "first_row", "first_row", defArgs (top 58), defBody (top 58), defScope (top 58), e_first_row.map dDv, []⟩
def n_first_row : List Str := ["paper", "most", "word", "name", "nodes", "leaf", "many", "row"]
def p_first_row : List Str := ["paper", "most", "word", "name"]
def e_come_to : List D := [(.int 64)]
def d_come_to : He.DefD := ⟨("come_to", none), "come_to", "come_to", defArgs (top 59), defBody (top 59), defScope (top 59), e_come_to.map dDv, []⟩
def n_come_to : List Str := ["paper", "question", "most"]
def p_come_to : List Str := ["paper", "question", "most"]
def e_met : List D := [(.int 64)]
def d_met : He.DefD := ⟨("met", none), "met", "met", defArgs (top 60), defBody (top 60), defScope (top 60), e_met.map dDv, []⟩
def n_met : List Str := ["paper", "check", "most"]
def p_met : List Str := ["paper", "check", "most"]
def e_two_ways : List D := [(.int 64)]
def d_two_ways : He.DefD := ⟨("two_ways", none), "two_ways", "two_ways", defArgs (top 61), defBody (top 61), defScope (top 61), e_two_ways.map dDv, []⟩
def n_two_ways : List Str := ["paper", "sheet", "most", "ahead", "left", "first", "row", "nodes", "leaf", "many", "one"]
def p_two_ways : List Str := ["paper", "sheet", "most"]
def e_counted_in : List D := []
def d_counted_in : He.DefD := ⟨("counted_in", none), "counted_in", "counted_in", defArgs (top 62), defBody (top 62), defScope (top 62), e_counted_in.map dDv, []⟩
def n_counted_in : List Str := ["paper", "row", "book", "question", "thing", "answer", "eaches", "found", "one", "k"]
def p_counted_in : List Str := ["paper", "row"]
def e_ending : List D := [(.int 64)]
def d_ending : He.DefD := ⟨("ending", none), "ending", "ending", defArgs (top 63), defBody (top 63), defScope (top 63), e_ending.map dDv, []⟩
def n_ending : List Str := ["paper", "row", "most", "kinds", "kept", "fixed", "where", "answer", "rank", "nodes", "leaf"]
def p_ending : List Str := ["paper", "row", "most"]
def e_L_cell : List D := []
def d_L_cell : He.DefD := ⟨("_law_cell", none), "_law_cell", "_law_cell", defArgs (top 65), defBody (top 65), defScope (top 65), e_L_cell.map dDv, []⟩
def n_L_cell : List Str := ["_law_script", "_law_k"]
def p_L_cell : List Str := ["_law_script", "_law_k"]
def e_L_name : List D := []
def d_L_name : He.DefD := ⟨("_law_name", none), "_law_name", "_law_name", defArgs (top 66), defBody (top 66), defScope (top 66), e_L_name.map dDv, []⟩
def n_L_name : List Str := ["_law_script", "_law_k", "_law_some", "_law_pad", "_law_middle"]
def p_L_name : List Str := ["_law_script", "_law_k"]
def e_L_paper : List D := []
def d_L_paper : He.DefD := ⟨("_law_paper", none), "_law_paper", "_law_paper", defArgs (top 67), defBody (top 67), defScope (top 67), e_L_paper.map dDv, []⟩
def n_L_paper : List Str := ["_law_names", "_law_low", "_law_many", "_law_number", "_law_said", "_law_rows", "_law_sheet"]
def p_L_paper : List Str := ["_law_names", "_law_low", "_law_many", "_law_number"]
def e_L_unknown : List D := []
def d_L_unknown : He.DefD := ⟨("_law_unknown", none), "_law_unknown", "_law_unknown", defArgs (top 68), defBody (top 68), defScope (top 68), e_L_unknown.map dDv, []⟩
def n_L_unknown : List Str := ["_law_found", "_law_most", "_law_splits", "_law_dark", "_law_node"]
def p_L_unknown : List Str := ["_law_found", "_law_most"]
def e_L_right : List D := []
def d_L_right : He.DefD := ⟨("_law_right", none), "_law_right", "_law_right", defArgs (top 69), defBody (top 69), defScope (top 69), e_L_right.map dDv, []⟩
def n_L_right : List Str := ["_law_found", "_law_due", "_law_most", "_law_enough"]
def p_L_right : List Str := ["_law_found", "_law_due", "_law_most", "_law_enough"]
def e_law : List D := []
def d_law : He.DefD := ⟨("law", none), "law", "law", defArgs (top 70), defBody (top 70), defScope (top 70), e_law.map dDv, []⟩
def n_law : List Str := ["_law_script", "_law_names", "_law_low", "_law_power", "_law_many", "_law_number", "_law_paper_here", "_law_first", "_law_row", "_law_told", "_law_found", "_law_most", "_law_other", "_law_k"]
def p_law : List Str := ["_law_script"]
def dd0 : List He.DefD := [d_WrongKind___init__, d_is_whole, d_is_name, d_Kind___init__, d_Kind_fits, d_YesNo___init__, d_YesNo_fits, d_YesNo_rank, d_YesNo_sample, d_Whole_fits, d_Whole_rank, d_Whole_sample, d_Names___init__, d_Names_fits, d_Names_rank, d_Names_sample, d_Row___init__, d_Ask___init__, d_Check___init__, d_Sheet___init__, d_Paper___init__, d_kinds_of, d_put_in, d_put_together, d_compared]
def dd1 : List He.DefD := [d_spanned, d_Saying_atoms, d_Saying_first_open, d_Compare___init__, d_Compare_settled, d_Compare_holds, d_Compare_sure, d_span_in, d_cut_for, d_Boxed___init__, d_Boxed_key, d_Boxed_sum_span, d_Boxed_look, d_Boxed_part_at, d_Boxed_agreed, d_Boxed_asked, d_Boxed_checked, d_Boxed_through, d_Boxed_turns_of, d_Boxed_way_out, d_Boxed_sheet_done, d_going_by, d_parts_of_box, d_ranges_of, d_cover]
def dd2 : List He.DefD := [d_worth, d_reckon, d_total_of, d_Walk___init__, d_Walk_look, d_Walk_agreed, d_Walk_asked, d_Walk_checked, d_Walk_through, d_Walk_things, d_Walk_way_out, d_straight, d_leaves_of, d_eaches_of, d_row_by, d_none_comes, d_first_row, d_come_to, d_met, d_two_ways, d_counted_in, d_ending, d_L_cell, d_L_name, d_L_paper]
def dd3 : List He.DefD := [d_L_unknown, d_L_right, d_law]
def dd : List He.DefD := dd0 ++ dd1 ++ dd2 ++ dd3
def dfl0 : List (List D) := [e_WrongKind___init__, e_is_whole, e_is_name, e_Kind___init__, e_Kind_fits, e_YesNo___init__, e_YesNo_fits, e_YesNo_rank, e_YesNo_sample, e_Whole_fits, e_Whole_rank, e_Whole_sample, e_Names___init__, e_Names_fits, e_Names_rank, e_Names_sample, e_Row___init__, e_Ask___init__, e_Check___init__, e_Sheet___init__, e_Paper___init__, e_kinds_of, e_put_in, e_put_together, e_compared]
def dfl1 : List (List D) := [e_spanned, e_Saying_atoms, e_Saying_first_open, e_Compare___init__, e_Compare_settled, e_Compare_holds, e_Compare_sure, e_span_in, e_cut_for, e_Boxed___init__, e_Boxed_key, e_Boxed_sum_span, e_Boxed_look, e_Boxed_part_at, e_Boxed_agreed, e_Boxed_asked, e_Boxed_checked, e_Boxed_through, e_Boxed_turns_of, e_Boxed_way_out, e_Boxed_sheet_done, e_going_by, e_parts_of_box, e_ranges_of, e_cover]
def dfl2 : List (List D) := [e_worth, e_reckon, e_total_of, e_Walk___init__, e_Walk_look, e_Walk_agreed, e_Walk_asked, e_Walk_checked, e_Walk_through, e_Walk_things, e_Walk_way_out, e_straight, e_leaves_of, e_eaches_of, e_row_by, e_none_comes, e_first_row, e_come_to, e_met, e_two_ways, e_counted_in, e_ending, e_L_cell, e_L_name, e_L_paper]
def dfl3 : List (List D) := [e_L_unknown, e_L_right, e_law]
def dfl : List (List D) := dfl0 ++ dfl1 ++ dfl2 ++ dfl3
def Ns0 : List (List Str) := [n_WrongKind___init__, n_is_whole, n_is_name, n_Kind___init__, n_Kind_fits, n_YesNo___init__, n_YesNo_fits, n_YesNo_rank, n_YesNo_sample, n_Whole_fits, n_Whole_rank, n_Whole_sample, n_Names___init__, n_Names_fits, n_Names_rank, n_Names_sample, n_Row___init__, n_Ask___init__, n_Check___init__, n_Sheet___init__, n_Paper___init__, n_kinds_of, n_put_in, n_put_together, n_compared]
def Ns1 : List (List Str) := [n_spanned, n_Saying_atoms, n_Saying_first_open, n_Compare___init__, n_Compare_settled, n_Compare_holds, n_Compare_sure, n_span_in, n_cut_for, n_Boxed___init__, n_Boxed_key, n_Boxed_sum_span, n_Boxed_look, n_Boxed_part_at, n_Boxed_agreed, n_Boxed_asked, n_Boxed_checked, n_Boxed_through, n_Boxed_turns_of, n_Boxed_way_out, n_Boxed_sheet_done, n_going_by, n_parts_of_box, n_ranges_of, n_cover]
def Ns2 : List (List Str) := [n_worth, n_reckon, n_total_of, n_Walk___init__, n_Walk_look, n_Walk_agreed, n_Walk_asked, n_Walk_checked, n_Walk_through, n_Walk_things, n_Walk_way_out, n_straight, n_leaves_of, n_eaches_of, n_row_by, n_none_comes, n_first_row, n_come_to, n_met, n_two_ways, n_counted_in, n_ending, n_L_cell, n_L_name, n_L_paper]
def Ns3 : List (List Str) := [n_L_unknown, n_L_right, n_law]
def Ns : List (List Str) := Ns0 ++ Ns1 ++ Ns2 ++ Ns3
def Ps0 : List (List Str) := [p_WrongKind___init__, p_is_whole, p_is_name, p_Kind___init__, p_Kind_fits, p_YesNo___init__, p_YesNo_fits, p_YesNo_rank, p_YesNo_sample, p_Whole_fits, p_Whole_rank, p_Whole_sample, p_Names___init__, p_Names_fits, p_Names_rank, p_Names_sample, p_Row___init__, p_Ask___init__, p_Check___init__, p_Sheet___init__, p_Paper___init__, p_kinds_of, p_put_in, p_put_together, p_compared]
def Ps1 : List (List Str) := [p_spanned, p_Saying_atoms, p_Saying_first_open, p_Compare___init__, p_Compare_settled, p_Compare_holds, p_Compare_sure, p_span_in, p_cut_for, p_Boxed___init__, p_Boxed_key, p_Boxed_sum_span, p_Boxed_look, p_Boxed_part_at, p_Boxed_agreed, p_Boxed_asked, p_Boxed_checked, p_Boxed_through, p_Boxed_turns_of, p_Boxed_way_out, p_Boxed_sheet_done, p_going_by, p_parts_of_box, p_ranges_of, p_cover]
def Ps2 : List (List Str) := [p_worth, p_reckon, p_total_of, p_Walk___init__, p_Walk_look, p_Walk_agreed, p_Walk_asked, p_Walk_checked, p_Walk_through, p_Walk_things, p_Walk_way_out, p_straight, p_leaves_of, p_eaches_of, p_row_by, p_none_comes, p_first_row, p_come_to, p_met, p_two_ways, p_counted_in, p_ending, p_L_cell, p_L_name, p_L_paper]
def Ps3 : List (List Str) := [p_L_unknown, p_L_right, p_law]
def Ps : List (List Str) := Ps0 ++ Ps1 ++ Ps2 ++ Ps3
def lam_0 : LamD := lamAt "Boxed.agreed.<locals>.<lambda>" (defBody (inClass (top 40) 5)) 0
def lamx_0 : Str := "name"
def lam_1 : LamD := lamAt "Boxed.agreed.<locals>.<lambda>" (defBody (inClass (top 40) 5)) 1
def lamx_1 : Str := "name"
def lam_2 : LamD := lamAt "reckon.<locals>.<lambda>" (defBody (top 49)) 0
def lamx_2 : Str := "part"
def lam_3 : LamD := lamAt "Walk.agreed.<locals>.<lambda>" (defBody (inClass (top 51) 2)) 0
def lamx_3 : Str := "name"
def lams : List (Nat × LamD) := [(78, lam_0), (79, lam_1), (80, lam_2), (81, lam_3)]
def mks : List (Nat × Str) := [(39, "Boxed.agreed.<locals>.<lambda>"), (51, "reckon.<locals>.<lambda>"), (55, "Walk.agreed.<locals>.<lambda>")]
def hs : Hs := ⟨P, tx, dfl, dd, lams, mks⟩
end Tx

namespace Hd
open PySem PySem.Spec PyProof.Rows L2 Co Tx
abbrev R : PySem.W.OpenRow := PySem.W.OpenLaw.row PySem.Challenge.rw_askpaper_k67_most_left_out
def names0 : List PySem.Str := ["__name__", "AskError", "NoNumber", "NoAnswer", "WrongKind", "LETTERS", "FIGURES", "NO_NAMES", "LONGEST_NAME", "is_whole", "is_name", "are_figures", "number_of", "SAMPLES", "Kind", "YesNo", "Whole", "hundredths", "Money", "Names", "Row", "Ask", "Check", "Sheet", "Paper"]
def names1 : List PySem.Str := ["kinds_of", "put_in", "put_together", "compared", "spanned", "Saying", "Compare", "span_in", "cut_for", "Boxed", "going_by", "parts_of_box", "ranges_of", "cover", "worth", "reckon", "total_of", "Walk", "straight", "leaves_of", "eaches_of", "row_by", "none_comes", "first_row", "come_to"]
def names2 : List PySem.Str := ["met", "two_ways", "counted_in", "ending", "_law_cell", "_law_name", "_law_paper", "_law_unknown", "_law_right"]
def names : List PySem.Str := names0 ++ names1 ++ names2
def as0 : List PySem.Addr := [2, 3, 24, 37, 49, 68, 71, 78, 85, 102, 140, 203, 257, 297, 359, 378, 407, 434, 453, 474, 485, 492, 497, 504, 511, 535, 584, 593, 600, 694]
def as1 : List PySem.Addr := [705, 712, 719, 727, 734, 741, 748, 814, 825, 830, 837, 844, 851, 858, 866, 874, 880, 887, 895, 902, 909, 916, 921, 928, 933, 67, 77, 84, 139, 202]
def as2 : List PySem.Addr := [256, 296, 358, 377, 406, 433, 452, 473, 484, 491, 496, 503, 510, 534, 583, 592, 599, 693, 704, 711, 718, 726, 720, 733, 740, 747, 813, 824, 829, 836]
def as3 : List PySem.Addr := [843, 850, 857, 865, 859, 873, 867, 879, 875, 886, 894, 888, 901, 908, 915, 920, 927, 932, 65, 116, 123, 158, 165, 186, 193, 219, 240, 247, 314, 321]
def as4 : List PySem.Addr := [342, 349, 375, 397, 424, 450, 471, 525, 532, 553, 567, 574, 581, 614, 621, 628, 635, 642, 649, 656, 663, 670, 677, 684, 691, 762, 769, 776, 783, 790]
def as5 : List PySem.Addr := [797, 804, 811, 64, 115, 122, 157, 164, 185, 192, 218, 239, 246, 313, 307, 320, 341, 348, 374, 396, 390, 423, 417, 449, 470, 524, 531, 552, 566, 573]
def as6 : List PySem.Addr := [580, 613, 620, 627, 634, 641, 648, 655, 662, 669, 676, 683, 690, 761, 768, 775, 782, 789, 796, 803, 810]
def asA : List PySem.Addr := as0 ++ (as1 ++ (as2 ++ (as3 ++ (as4 ++ (as5 ++ (as6))))))
abbrev hk : PySem.W.Hook := hookA asA hs
def ob (s : PySem.W.SharedT) : He.AlD := obsCA asA hs (HandSHeadRun.getT s)
theorem ob_eq (s : PySem.W.SharedT) : ob s = hk.obs s.abs := obsCA_eq (HandSHeadRun.getT_eq s)
theorem run (w : World) : HandSHeadRun.RunEq R (PySem.W.view R.prog [70]) hk ob 20000 names w := by
  intro os
  kernel_rfl

theorem bd_WrongKind___init__ : Bd d_WrongKind___init__ p_WrongKind___init__ := ⟨fun _ _ _ _ _ _ _ us hl => match us, hl with | [_, _], _ => rfl, fun h => absurd rfl h⟩
theorem st_WrongKind___init__ : DSt hs 0 ⟨2, 2, b_WrongKind___init__⟩ := ⟨d_WrongKind___init__, n_WrongKind___init__, p_WrongKind___init__, none, rfl, rfl, rfl, by decide, by kernel_rfl, rfl, rfl, fun K n => by kernel_rfl, bd_WrongKind___init__, fun ql h => by cases h⟩
theorem bd_is_whole : Bd d_is_whole p_is_whole := ⟨fun _ _ _ _ _ _ _ us hl => match us, hl with | [_], _ => rfl, fun h => absurd rfl h⟩
theorem st_is_whole : DSt hs 1 ⟨1, 1, b_is_whole⟩ := ⟨d_is_whole, n_is_whole, p_is_whole, none, rfl, rfl, rfl, by decide, by kernel_rfl, rfl, rfl, fun K n => by kernel_rfl, bd_is_whole, fun ql h => by cases h⟩
theorem bd_is_name : Bd d_is_name p_is_name := ⟨fun _ _ _ _ _ _ _ us hl => match us, hl with | [_], _ => rfl, fun h => absurd rfl h⟩
theorem st_is_name : DSt hs 2 ⟨1, 2, b_is_name⟩ := ⟨d_is_name, n_is_name, p_is_name, none, rfl, rfl, rfl, by decide, by kernel_rfl, rfl, rfl, fun K n => by kernel_rfl, bd_is_name, fun ql h => by cases h⟩
theorem bd_Kind___init__ : Bd d_Kind___init__ p_Kind___init__ := ⟨fun _ _ _ _ _ _ _ us hl => match us, hl with | [_, _, _], _ => rfl, fun h => absurd rfl h⟩
theorem st_Kind___init__ : DSt hs 3 ⟨3, 3, b_Kind___init__⟩ := ⟨d_Kind___init__, n_Kind___init__, p_Kind___init__, none, rfl, rfl, rfl, by decide, by kernel_rfl, rfl, rfl, fun K n => by kernel_rfl, bd_Kind___init__, fun ql h => by cases h⟩
theorem bd_Kind_fits : Bd d_Kind_fits p_Kind_fits := ⟨fun _ _ _ _ _ _ _ us hl => match us, hl with | [_, _], _ => rfl, fun h => absurd rfl h⟩
theorem st_Kind_fits : DSt hs 4 ⟨2, 2, b_Kind_fits⟩ := ⟨d_Kind_fits, n_Kind_fits, p_Kind_fits, none, rfl, rfl, rfl, by decide, by kernel_rfl, rfl, rfl, fun K n => by kernel_rfl, bd_Kind_fits, fun ql h => by cases h⟩
theorem bd_YesNo___init__ : Bd d_YesNo___init__ p_YesNo___init__ := ⟨fun _ _ _ _ _ _ _ us hl => match us, hl with | [_], _ => rfl, fun h => absurd rfl h⟩
theorem st_YesNo___init__ : DSt hs 5 ⟨1, 1, b_YesNo___init__⟩ := ⟨d_YesNo___init__, n_YesNo___init__, p_YesNo___init__, none, rfl, rfl, rfl, by decide, by kernel_rfl, rfl, rfl, fun K n => by kernel_rfl, bd_YesNo___init__, fun ql h => by cases h⟩
theorem bd_YesNo_fits : Bd d_YesNo_fits p_YesNo_fits := ⟨fun _ _ _ _ _ _ _ us hl => match us, hl with | [_, _], _ => rfl, fun h => absurd rfl h⟩
theorem st_YesNo_fits : DSt hs 6 ⟨2, 2, b_YesNo_fits⟩ := ⟨d_YesNo_fits, n_YesNo_fits, p_YesNo_fits, none, rfl, rfl, rfl, by decide, by kernel_rfl, rfl, rfl, fun K n => by kernel_rfl, bd_YesNo_fits, fun ql h => by cases h⟩
theorem bd_YesNo_rank : Bd d_YesNo_rank p_YesNo_rank := ⟨fun _ _ _ _ _ _ _ us hl => match us, hl with | [_, _], _ => rfl, fun h => absurd rfl h⟩
theorem st_YesNo_rank : DSt hs 7 ⟨2, 2, b_YesNo_rank⟩ := ⟨d_YesNo_rank, n_YesNo_rank, p_YesNo_rank, none, rfl, rfl, rfl, by decide, by kernel_rfl, rfl, rfl, fun K n => by kernel_rfl, bd_YesNo_rank, fun ql h => by cases h⟩
theorem bd_YesNo_sample : Bd d_YesNo_sample p_YesNo_sample := ⟨fun _ _ _ _ _ _ _ us hl => match us, hl with | [_, _], _ => rfl, fun h => absurd rfl h⟩
theorem st_YesNo_sample : DSt hs 8 ⟨2, 2, b_YesNo_sample⟩ := ⟨d_YesNo_sample, n_YesNo_sample, p_YesNo_sample, none, rfl, rfl, rfl, by decide, by kernel_rfl, rfl, rfl, fun K n => by kernel_rfl, bd_YesNo_sample, fun ql h => by cases h⟩
theorem bd_Whole_fits : Bd d_Whole_fits p_Whole_fits := ⟨fun _ _ _ _ _ _ _ us hl => match us, hl with | [_, _], _ => rfl, fun h => absurd rfl h⟩
theorem st_Whole_fits : DSt hs 9 ⟨2, 2, b_Whole_fits⟩ := ⟨d_Whole_fits, n_Whole_fits, p_Whole_fits, none, rfl, rfl, rfl, by decide, by kernel_rfl, rfl, rfl, fun K n => by kernel_rfl, bd_Whole_fits, fun ql h => by cases h⟩
theorem bd_Whole_rank : Bd d_Whole_rank p_Whole_rank := ⟨fun _ _ _ _ _ _ _ us hl => match us, hl with | [_, _], _ => rfl, fun h => absurd rfl h⟩
theorem st_Whole_rank : DSt hs 10 ⟨2, 2, b_Whole_rank⟩ := ⟨d_Whole_rank, n_Whole_rank, p_Whole_rank, none, rfl, rfl, rfl, by decide, by kernel_rfl, rfl, rfl, fun K n => by kernel_rfl, bd_Whole_rank, fun ql h => by cases h⟩
theorem bd_Whole_sample : Bd d_Whole_sample p_Whole_sample := ⟨fun _ _ _ _ _ _ _ us hl => match us, hl with | [_, _], _ => rfl, fun h => absurd rfl h⟩
theorem st_Whole_sample : DSt hs 11 ⟨2, 2, b_Whole_sample⟩ := ⟨d_Whole_sample, n_Whole_sample, p_Whole_sample, none, rfl, rfl, rfl, by decide, by kernel_rfl, rfl, rfl, fun K n => by kernel_rfl, bd_Whole_sample, fun ql h => by cases h⟩
theorem bd_Names___init__ : Bd d_Names___init__ p_Names___init__ := by
  refine ⟨fun h => (by cases h), fun _ n j hn hj T kV doc pm an cdv ct us its hl hi => ?_⟩
  have hj : j ≤ 1 := hj
  have hn : n + (1 - j) = 2 := hn
  have hi : its.length = 1 := hi
  by_cases e0 : j = 0
  · subst e0
    obtain rfl : n = 1 := by omega
    exact match us, its, hl, hi with | [_], [_], _, _ => ⟨_, rfl, rfl⟩
  by_cases e1 : j = 1
  · subst e1
    obtain rfl : n = 2 := by omega
    exact match us, its, hl, hi with | [_, _], [_], _, _ => ⟨_, rfl, rfl⟩
  omega
theorem st_Names___init__ : DSt hs 12 ⟨2, 2, b_Names___init__⟩ := ⟨d_Names___init__, n_Names___init__, p_Names___init__, none, rfl, rfl, rfl, by decide, by kernel_rfl, rfl, rfl, fun K n => by kernel_rfl, bd_Names___init__, fun ql h => by cases h⟩
theorem bd_Names_fits : Bd d_Names_fits p_Names_fits := ⟨fun _ _ _ _ _ _ _ us hl => match us, hl with | [_, _], _ => rfl, fun h => absurd rfl h⟩
theorem st_Names_fits : DSt hs 13 ⟨2, 3, b_Names_fits⟩ := ⟨d_Names_fits, n_Names_fits, p_Names_fits, none, rfl, rfl, rfl, by decide, by kernel_rfl, rfl, rfl, fun K n => by kernel_rfl, bd_Names_fits, fun ql h => by cases h⟩
theorem bd_Names_rank : Bd d_Names_rank p_Names_rank := ⟨fun _ _ _ _ _ _ _ us hl => match us, hl with | [_, _], _ => rfl, fun h => absurd rfl h⟩
theorem st_Names_rank : DSt hs 14 ⟨2, 2, b_Names_rank⟩ := ⟨d_Names_rank, n_Names_rank, p_Names_rank, none, rfl, rfl, rfl, by decide, by kernel_rfl, rfl, rfl, fun K n => by kernel_rfl, bd_Names_rank, fun ql h => by cases h⟩
theorem bd_Names_sample : Bd d_Names_sample p_Names_sample := ⟨fun _ _ _ _ _ _ _ us hl => match us, hl with | [_, _], _ => rfl, fun h => absurd rfl h⟩
theorem st_Names_sample : DSt hs 15 ⟨2, 2, b_Names_sample⟩ := ⟨d_Names_sample, n_Names_sample, p_Names_sample, none, rfl, rfl, rfl, by decide, by kernel_rfl, rfl, rfl, fun K n => by kernel_rfl, bd_Names_sample, fun ql h => by cases h⟩
theorem bd_Row___init__ : Bd d_Row___init__ p_Row___init__ := ⟨fun _ _ _ _ _ _ _ us hl => match us, hl with | [_, _], _ => rfl, fun h => absurd rfl h⟩
theorem st_Row___init__ : DSt hs 16 ⟨2, 2, b_Row___init__⟩ := ⟨d_Row___init__, n_Row___init__, p_Row___init__, none, rfl, rfl, rfl, by decide, by kernel_rfl, rfl, rfl, fun K n => by kernel_rfl, bd_Row___init__, fun ql h => by cases h⟩
theorem bd_Ask___init__ : Bd d_Ask___init__ p_Ask___init__ := by
  refine ⟨fun h => (by cases h), fun _ n j hn hj T kV doc pm an cdv ct us its hl hi => ?_⟩
  have hj : j ≤ 1 := hj
  have hn : n + (1 - j) = 4 := hn
  have hi : its.length = 1 := hi
  by_cases e0 : j = 0
  · subst e0
    obtain rfl : n = 3 := by omega
    exact match us, its, hl, hi with | [_, _, _], [_], _, _ => ⟨_, rfl, rfl⟩
  by_cases e1 : j = 1
  · subst e1
    obtain rfl : n = 4 := by omega
    exact match us, its, hl, hi with | [_, _, _, _], [_], _, _ => ⟨_, rfl, rfl⟩
  omega
theorem st_Ask___init__ : DSt hs 17 ⟨4, 4, b_Ask___init__⟩ := ⟨d_Ask___init__, n_Ask___init__, p_Ask___init__, none, rfl, rfl, rfl, by decide, by kernel_rfl, rfl, rfl, fun K n => by kernel_rfl, bd_Ask___init__, fun ql h => by cases h⟩
theorem bd_Check___init__ : Bd d_Check___init__ p_Check___init__ := by
  refine ⟨fun h => (by cases h), fun _ n j hn hj T kV doc pm an cdv ct us its hl hi => ?_⟩
  have hj : j ≤ 1 := hj
  have hn : n + (1 - j) = 4 := hn
  have hi : its.length = 1 := hi
  by_cases e0 : j = 0
  · subst e0
    obtain rfl : n = 3 := by omega
    exact match us, its, hl, hi with | [_, _, _], [_], _, _ => ⟨_, rfl, rfl⟩
  by_cases e1 : j = 1
  · subst e1
    obtain rfl : n = 4 := by omega
    exact match us, its, hl, hi with | [_, _, _, _], [_], _, _ => ⟨_, rfl, rfl⟩
  omega
theorem st_Check___init__ : DSt hs 18 ⟨4, 4, b_Check___init__⟩ := ⟨d_Check___init__, n_Check___init__, p_Check___init__, none, rfl, rfl, rfl, by decide, by kernel_rfl, rfl, rfl, fun K n => by kernel_rfl, bd_Check___init__, fun ql h => by cases h⟩
theorem bd_Sheet___init__ : Bd d_Sheet___init__ p_Sheet___init__ := ⟨fun _ _ _ _ _ _ _ us hl => match us, hl with | [_, _, _, _, _], _ => rfl, fun h => absurd rfl h⟩
theorem st_Sheet___init__ : DSt hs 19 ⟨5, 5, b_Sheet___init__⟩ := ⟨d_Sheet___init__, n_Sheet___init__, p_Sheet___init__, none, rfl, rfl, rfl, by decide, by kernel_rfl, rfl, rfl, fun K n => by kernel_rfl, bd_Sheet___init__, fun ql h => by cases h⟩
theorem bd_Paper___init__ : Bd d_Paper___init__ p_Paper___init__ := ⟨fun _ _ _ _ _ _ _ us hl => match us, hl with | [_, _, _, _], _ => rfl, fun h => absurd rfl h⟩
theorem st_Paper___init__ : DSt hs 20 ⟨4, 4, b_Paper___init__⟩ := ⟨d_Paper___init__, n_Paper___init__, p_Paper___init__, none, rfl, rfl, rfl, by decide, by kernel_rfl, rfl, rfl, fun K n => by kernel_rfl, bd_Paper___init__, fun ql h => by cases h⟩
theorem bd_kinds_of : Bd d_kinds_of p_kinds_of := ⟨fun _ _ _ _ _ _ _ us hl => match us, hl with | [_], _ => rfl, fun h => absurd rfl h⟩
theorem st_kinds_of : DSt hs 21 ⟨1, 4, b_kinds_of⟩ := ⟨d_kinds_of, n_kinds_of, p_kinds_of, none, rfl, rfl, rfl, by decide, by kernel_rfl, rfl, rfl, fun K n => by kernel_rfl, bd_kinds_of, fun ql h => by cases h⟩
theorem bd_put_in : Bd d_put_in p_put_in := ⟨fun _ _ _ _ _ _ _ us hl => match us, hl with | [_, _, _], _ => rfl, fun h => absurd rfl h⟩
theorem st_put_in : DSt hs 22 ⟨3, 9, b_put_in⟩ := ⟨d_put_in, n_put_in, p_put_in, none, rfl, rfl, rfl, by decide, by kernel_rfl, rfl, rfl, fun K n => by kernel_rfl, bd_put_in, fun ql h => by cases h⟩
theorem bd_put_together : Bd d_put_together p_put_together := ⟨fun _ _ _ _ _ _ _ us hl => match us, hl with | [_, _], _ => rfl, fun h => absurd rfl h⟩
theorem st_put_together : DSt hs 23 ⟨2, 7, b_put_together⟩ := ⟨d_put_together, n_put_together, p_put_together, none, rfl, rfl, rfl, by decide, by kernel_rfl, rfl, rfl, fun K n => by kernel_rfl, bd_put_together, fun ql h => by cases h⟩
theorem bd_compared : Bd d_compared p_compared := ⟨fun _ _ _ _ _ _ _ us hl => match us, hl with | [_, _, _], _ => rfl, fun h => absurd rfl h⟩
theorem st_compared : DSt hs 24 ⟨3, 3, b_compared⟩ := ⟨d_compared, n_compared, p_compared, none, rfl, rfl, rfl, by decide, by kernel_rfl, rfl, rfl, fun K n => by kernel_rfl, bd_compared, fun ql h => by cases h⟩
theorem bd_spanned : Bd d_spanned p_spanned := ⟨fun _ _ _ _ _ _ _ us hl => match us, hl with | [_, _, _], _ => rfl, fun h => absurd rfl h⟩
theorem st_spanned : DSt hs 25 ⟨3, 7, b_spanned⟩ := ⟨d_spanned, n_spanned, p_spanned, none, rfl, rfl, rfl, by decide, by kernel_rfl, rfl, rfl, fun K n => by kernel_rfl, bd_spanned, fun ql h => by cases h⟩
theorem bd_Saying_atoms : Bd d_Saying_atoms p_Saying_atoms := ⟨fun _ _ _ _ _ _ _ us hl => match us, hl with | [_], _ => rfl, fun h => absurd rfl h⟩
theorem st_Saying_atoms : DSt hs 26 ⟨1, 1, b_Saying_atoms⟩ := ⟨d_Saying_atoms, n_Saying_atoms, p_Saying_atoms, none, rfl, rfl, rfl, by decide, by kernel_rfl, rfl, rfl, fun K n => by kernel_rfl, bd_Saying_atoms, fun ql h => by cases h⟩
theorem bd_Saying_first_open : Bd d_Saying_first_open p_Saying_first_open := ⟨fun _ _ _ _ _ _ _ us hl => match us, hl with | [_, _], _ => rfl, fun h => absurd rfl h⟩
theorem st_Saying_first_open : DSt hs 27 ⟨2, 3, b_Saying_first_open⟩ := ⟨d_Saying_first_open, n_Saying_first_open, p_Saying_first_open, none, rfl, rfl, rfl, by decide, by kernel_rfl, rfl, rfl, fun K n => by kernel_rfl, bd_Saying_first_open, fun ql h => by cases h⟩
theorem bd_Compare___init__ : Bd d_Compare___init__ p_Compare___init__ := ⟨fun _ _ _ _ _ _ _ us hl => match us, hl with | [_, _, _, _], _ => rfl, fun h => absurd rfl h⟩
theorem st_Compare___init__ : DSt hs 28 ⟨4, 4, b_Compare___init__⟩ := ⟨d_Compare___init__, n_Compare___init__, p_Compare___init__, none, rfl, rfl, rfl, by decide, by kernel_rfl, rfl, rfl, fun K n => by kernel_rfl, bd_Compare___init__, fun ql h => by cases h⟩
theorem bd_Compare_settled : Bd d_Compare_settled p_Compare_settled := ⟨fun _ _ _ _ _ _ _ us hl => match us, hl with | [_, _], _ => rfl, fun h => absurd rfl h⟩
theorem st_Compare_settled : DSt hs 29 ⟨2, 2, b_Compare_settled⟩ := ⟨d_Compare_settled, n_Compare_settled, p_Compare_settled, none, rfl, rfl, rfl, by decide, by kernel_rfl, rfl, rfl, fun K n => by kernel_rfl, bd_Compare_settled, fun ql h => by cases h⟩
theorem bd_Compare_holds : Bd d_Compare_holds p_Compare_holds := ⟨fun _ _ _ _ _ _ _ us hl => match us, hl with | [_, _], _ => rfl, fun h => absurd rfl h⟩
theorem st_Compare_holds : DSt hs 30 ⟨2, 3, b_Compare_holds⟩ := ⟨d_Compare_holds, n_Compare_holds, p_Compare_holds, none, rfl, rfl, rfl, by decide, by kernel_rfl, rfl, rfl, fun K n => by kernel_rfl, bd_Compare_holds, fun ql h => by cases h⟩
theorem bd_Compare_sure : Bd d_Compare_sure p_Compare_sure := ⟨fun _ _ _ _ _ _ _ us hl => match us, hl with | [_, _], _ => rfl, fun h => absurd rfl h⟩
theorem st_Compare_sure : DSt hs 31 ⟨2, 2, b_Compare_sure⟩ := ⟨d_Compare_sure, n_Compare_sure, p_Compare_sure, none, rfl, rfl, rfl, by decide, by kernel_rfl, rfl, rfl, fun K n => by kernel_rfl, bd_Compare_sure, fun ql h => by cases h⟩
theorem bd_span_in : Bd d_span_in p_span_in := ⟨fun _ _ _ _ _ _ _ us hl => match us, hl with | [_, _, _, _], _ => rfl, fun h => absurd rfl h⟩
theorem st_span_in : DSt hs 32 ⟨4, 5, b_span_in⟩ := ⟨d_span_in, n_span_in, p_span_in, none, rfl, rfl, rfl, by decide, by kernel_rfl, rfl, rfl, fun K n => by kernel_rfl, bd_span_in, fun ql h => by cases h⟩
theorem bd_cut_for : Bd d_cut_for p_cut_for := ⟨fun _ _ _ _ _ _ _ us hl => match us, hl with | [_, _, _], _ => rfl, fun h => absurd rfl h⟩
theorem st_cut_for : DSt hs 33 ⟨3, 5, b_cut_for⟩ := ⟨d_cut_for, n_cut_for, p_cut_for, none, rfl, rfl, rfl, by decide, by kernel_rfl, rfl, rfl, fun K n => by kernel_rfl, bd_cut_for, fun ql h => by cases h⟩
theorem bd_Boxed___init__ : Bd d_Boxed___init__ p_Boxed___init__ := ⟨fun _ _ _ _ _ _ _ us hl => match us, hl with | [_, _, _], _ => rfl, fun h => absurd rfl h⟩
theorem st_Boxed___init__ : DSt hs 34 ⟨3, 7, b_Boxed___init__⟩ := ⟨d_Boxed___init__, n_Boxed___init__, p_Boxed___init__, none, rfl, rfl, rfl, by decide, by kernel_rfl, rfl, rfl, fun K n => by kernel_rfl, bd_Boxed___init__, fun ql h => by cases h⟩
theorem bd_Boxed_key : Bd d_Boxed_key p_Boxed_key := ⟨fun _ _ _ _ _ _ _ us hl => match us, hl with | [_, _, _], _ => rfl, fun h => absurd rfl h⟩
theorem st_Boxed_key : DSt hs 35 ⟨3, 3, b_Boxed_key⟩ := ⟨d_Boxed_key, n_Boxed_key, p_Boxed_key, none, rfl, rfl, rfl, by decide, by kernel_rfl, rfl, rfl, fun K n => by kernel_rfl, bd_Boxed_key, fun ql h => by cases h⟩
theorem bd_Boxed_sum_span : Bd d_Boxed_sum_span p_Boxed_sum_span := ⟨fun _ _ _ _ _ _ _ us hl => match us, hl with | [_, _], _ => rfl, fun h => absurd rfl h⟩
theorem st_Boxed_sum_span : DSt hs 36 ⟨2, 10, b_Boxed_sum_span⟩ := ⟨d_Boxed_sum_span, n_Boxed_sum_span, p_Boxed_sum_span, none, rfl, rfl, rfl, by decide, by kernel_rfl, rfl, rfl, fun K n => by kernel_rfl, bd_Boxed_sum_span, fun ql h => by cases h⟩
theorem bd_Boxed_look : Bd d_Boxed_look p_Boxed_look := ⟨fun _ _ _ _ _ _ _ us hl => match us, hl with | [_, _, _], _ => rfl, fun h => absurd rfl h⟩
theorem st_Boxed_look : DSt hs 37 ⟨3, 3, b_Boxed_look⟩ := ⟨d_Boxed_look, n_Boxed_look, p_Boxed_look, none, rfl, rfl, rfl, by decide, by kernel_rfl, rfl, rfl, fun K n => by kernel_rfl, bd_Boxed_look, fun ql h => by cases h⟩
theorem bd_Boxed_part_at : Bd d_Boxed_part_at p_Boxed_part_at := ⟨fun _ _ _ _ _ _ _ us hl => match us, hl with | [_, _, _], _ => rfl, fun h => absurd rfl h⟩
theorem st_Boxed_part_at : DSt hs 38 ⟨3, 9, b_Boxed_part_at⟩ := ⟨d_Boxed_part_at, n_Boxed_part_at, p_Boxed_part_at, none, rfl, rfl, rfl, by decide, by kernel_rfl, rfl, rfl, fun K n => by kernel_rfl, bd_Boxed_part_at, fun ql h => by cases h⟩
theorem bd_Boxed_agreed : Bd d_Boxed_agreed p_Boxed_agreed := ⟨fun _ _ _ _ _ _ _ us hl => match us, hl with | [_, _, _], _ => rfl, fun h => absurd rfl h⟩
theorem st_Boxed_agreed : DSt hs 39 ⟨3, 4, b_Boxed_agreed⟩ := ⟨d_Boxed_agreed, n_Boxed_agreed, p_Boxed_agreed, (some "Boxed.agreed.<locals>.<lambda>"), rfl, rfl, rfl, by decide, by kernel_rfl, rfl, rfl, fun K n => by kernel_rfl, bd_Boxed_agreed, fun ql h => by cases h; exact ⟨by decide +kernel, by decide +kernel⟩⟩
theorem bd_Boxed_asked : Bd d_Boxed_asked p_Boxed_asked := ⟨fun _ _ _ _ _ _ _ us hl => match us, hl with | [_, _, _], _ => rfl, fun h => absurd rfl h⟩
theorem st_Boxed_asked : DSt hs 40 ⟨3, 3, b_Boxed_asked⟩ := ⟨d_Boxed_asked, n_Boxed_asked, p_Boxed_asked, none, rfl, rfl, rfl, by decide, by kernel_rfl, rfl, rfl, fun K n => by kernel_rfl, bd_Boxed_asked, fun ql h => by cases h⟩
theorem bd_Boxed_checked : Bd d_Boxed_checked p_Boxed_checked := ⟨fun _ _ _ _ _ _ _ us hl => match us, hl with | [_, _, _, _], _ => rfl, fun h => absurd rfl h⟩
theorem st_Boxed_checked : DSt hs 41 ⟨4, 4, b_Boxed_checked⟩ := ⟨d_Boxed_checked, n_Boxed_checked, p_Boxed_checked, none, rfl, rfl, rfl, by decide, by kernel_rfl, rfl, rfl, fun K n => by kernel_rfl, bd_Boxed_checked, fun ql h => by cases h⟩
theorem bd_Boxed_through : Bd d_Boxed_through p_Boxed_through := ⟨fun _ _ _ _ _ _ _ us hl => match us, hl with | [_, _, _], _ => rfl, fun h => absurd rfl h⟩
theorem st_Boxed_through : DSt hs 42 ⟨3, 6, b_Boxed_through⟩ := ⟨d_Boxed_through, n_Boxed_through, p_Boxed_through, none, rfl, rfl, rfl, by decide, by kernel_rfl, rfl, rfl, fun K n => by kernel_rfl, bd_Boxed_through, fun ql h => by cases h⟩
theorem bd_Boxed_turns_of : Bd d_Boxed_turns_of p_Boxed_turns_of := ⟨fun _ _ _ _ _ _ _ us hl => match us, hl with | [_, _], _ => rfl, fun h => absurd rfl h⟩
theorem st_Boxed_turns_of : DSt hs 43 ⟨2, 4, b_Boxed_turns_of⟩ := ⟨d_Boxed_turns_of, n_Boxed_turns_of, p_Boxed_turns_of, none, rfl, rfl, rfl, by decide, by kernel_rfl, rfl, rfl, fun K n => by kernel_rfl, bd_Boxed_turns_of, fun ql h => by cases h⟩
theorem bd_Boxed_way_out : Bd d_Boxed_way_out p_Boxed_way_out := ⟨fun _ _ _ _ _ _ _ us hl => match us, hl with | [_, _], _ => rfl, fun h => absurd rfl h⟩
theorem st_Boxed_way_out : DSt hs 44 ⟨2, 6, b_Boxed_way_out⟩ := ⟨d_Boxed_way_out, n_Boxed_way_out, p_Boxed_way_out, none, rfl, rfl, rfl, by decide, by kernel_rfl, rfl, rfl, fun K n => by kernel_rfl, bd_Boxed_way_out, fun ql h => by cases h⟩
theorem bd_Boxed_sheet_done : Bd d_Boxed_sheet_done p_Boxed_sheet_done := ⟨fun _ _ _ _ _ _ _ us hl => match us, hl with | [_, _], _ => rfl, fun h => absurd rfl h⟩
theorem st_Boxed_sheet_done : DSt hs 45 ⟨2, 4, b_Boxed_sheet_done⟩ := ⟨d_Boxed_sheet_done, n_Boxed_sheet_done, p_Boxed_sheet_done, none, rfl, rfl, rfl, by decide, by kernel_rfl, rfl, rfl, fun K n => by kernel_rfl, bd_Boxed_sheet_done, fun ql h => by cases h⟩
theorem bd_going_by : Bd d_going_by p_going_by := ⟨fun _ _ _ _ _ _ _ us hl => match us, hl with | [_, _], _ => rfl, fun h => absurd rfl h⟩
theorem st_going_by : DSt hs 46 ⟨2, 6, b_going_by⟩ := ⟨d_going_by, n_going_by, p_going_by, none, rfl, rfl, rfl, by decide, by kernel_rfl, rfl, rfl, fun K n => by kernel_rfl, bd_going_by, fun ql h => by cases h⟩
theorem bd_parts_of_box : Bd d_parts_of_box p_parts_of_box := ⟨fun _ _ _ _ _ _ _ us hl => match us, hl with | [_, _, _, _, _], _ => rfl, fun h => absurd rfl h⟩
theorem st_parts_of_box : DSt hs 47 ⟨5, 9, b_parts_of_box⟩ := ⟨d_parts_of_box, n_parts_of_box, p_parts_of_box, none, rfl, rfl, rfl, by decide, by kernel_rfl, rfl, rfl, fun K n => by kernel_rfl, bd_parts_of_box, fun ql h => by cases h⟩
theorem bd_ranges_of : Bd d_ranges_of p_ranges_of := ⟨fun _ _ _ _ _ _ _ us hl => match us, hl with | [_, _, _], _ => rfl, fun h => absurd rfl h⟩
theorem st_ranges_of : DSt hs 48 ⟨3, 7, b_ranges_of⟩ := ⟨d_ranges_of, n_ranges_of, p_ranges_of, none, rfl, rfl, rfl, by decide, by kernel_rfl, rfl, rfl, fun K n => by kernel_rfl, bd_ranges_of, fun ql h => by cases h⟩
theorem bd_cover : Bd d_cover p_cover := by
  refine ⟨fun h => (by cases h), fun _ n j hn hj T kV doc pm an cdv ct us its hl hi => ?_⟩
  have hj : j ≤ 2 := hj
  have hn : n + (2 - j) = 3 := hn
  have hi : its.length = 2 := hi
  by_cases e0 : j = 0
  · subst e0
    obtain rfl : n = 1 := by omega
    exact match us, its, hl, hi with | [_], [_, _], _, _ => ⟨_, rfl, rfl⟩
  by_cases e1 : j = 1
  · subst e1
    obtain rfl : n = 2 := by omega
    exact match us, its, hl, hi with | [_, _], [_, _], _, _ => ⟨_, rfl, rfl⟩
  by_cases e2 : j = 2
  · subst e2
    obtain rfl : n = 3 := by omega
    exact match us, its, hl, hi with | [_, _, _], [_, _], _, _ => ⟨_, rfl, rfl⟩
  omega
theorem st_cover : DSt hs 49 ⟨3, 15, b_cover⟩ := ⟨d_cover, n_cover, p_cover, none, rfl, rfl, rfl, by decide, by kernel_rfl, rfl, rfl, fun K n => by kernel_rfl, bd_cover, fun ql h => by cases h⟩
theorem bd_worth : Bd d_worth p_worth := ⟨fun _ _ _ _ _ _ _ us hl => match us, hl with | [_, _], _ => rfl, fun h => absurd rfl h⟩
theorem st_worth : DSt hs 50 ⟨2, 5, b_worth⟩ := ⟨d_worth, n_worth, p_worth, none, rfl, rfl, rfl, by decide, by kernel_rfl, rfl, rfl, fun K n => by kernel_rfl, bd_worth, fun ql h => by cases h⟩
theorem bd_reckon : Bd d_reckon p_reckon := ⟨fun _ _ _ _ _ _ _ us hl => match us, hl with | [_, _, _, _], _ => rfl, fun h => absurd rfl h⟩
theorem st_reckon : DSt hs 51 ⟨4, 6, b_reckon⟩ := ⟨d_reckon, n_reckon, p_reckon, (some "reckon.<locals>.<lambda>"), rfl, rfl, rfl, by decide, by kernel_rfl, rfl, rfl, fun K n => by kernel_rfl, bd_reckon, fun ql h => by cases h; exact ⟨by decide +kernel, by decide +kernel⟩⟩
theorem bd_total_of : Bd d_total_of p_total_of := ⟨fun _ _ _ _ _ _ _ us hl => match us, hl with | [_, _, _], _ => rfl, fun h => absurd rfl h⟩
theorem st_total_of : DSt hs 52 ⟨3, 4, b_total_of⟩ := ⟨d_total_of, n_total_of, p_total_of, none, rfl, rfl, rfl, by decide, by kernel_rfl, rfl, rfl, fun K n => by kernel_rfl, bd_total_of, fun ql h => by cases h⟩
theorem bd_Walk___init__ : Bd d_Walk___init__ p_Walk___init__ := ⟨fun _ _ _ _ _ _ _ us hl => match us, hl with | [_, _, _], _ => rfl, fun h => absurd rfl h⟩
theorem st_Walk___init__ : DSt hs 53 ⟨3, 3, b_Walk___init__⟩ := ⟨d_Walk___init__, n_Walk___init__, p_Walk___init__, none, rfl, rfl, rfl, by decide, by kernel_rfl, rfl, rfl, fun K n => by kernel_rfl, bd_Walk___init__, fun ql h => by cases h⟩
theorem bd_Walk_look : Bd d_Walk_look p_Walk_look := ⟨fun _ _ _ _ _ _ _ us hl => match us, hl with | [_, _, _], _ => rfl, fun h => absurd rfl h⟩
theorem st_Walk_look : DSt hs 54 ⟨3, 4, b_Walk_look⟩ := ⟨d_Walk_look, n_Walk_look, p_Walk_look, none, rfl, rfl, rfl, by decide, by kernel_rfl, rfl, rfl, fun K n => by kernel_rfl, bd_Walk_look, fun ql h => by cases h⟩
theorem bd_Walk_agreed : Bd d_Walk_agreed p_Walk_agreed := ⟨fun _ _ _ _ _ _ _ us hl => match us, hl with | [_, _, _], _ => rfl, fun h => absurd rfl h⟩
theorem st_Walk_agreed : DSt hs 55 ⟨3, 3, b_Walk_agreed⟩ := ⟨d_Walk_agreed, n_Walk_agreed, p_Walk_agreed, (some "Walk.agreed.<locals>.<lambda>"), rfl, rfl, rfl, by decide, by kernel_rfl, rfl, rfl, fun K n => by kernel_rfl, bd_Walk_agreed, fun ql h => by cases h; exact ⟨by decide +kernel, by decide +kernel⟩⟩
theorem bd_Walk_asked : Bd d_Walk_asked p_Walk_asked := ⟨fun _ _ _ _ _ _ _ us hl => match us, hl with | [_, _, _], _ => rfl, fun h => absurd rfl h⟩
theorem st_Walk_asked : DSt hs 56 ⟨3, 5, b_Walk_asked⟩ := ⟨d_Walk_asked, n_Walk_asked, p_Walk_asked, none, rfl, rfl, rfl, by decide, by kernel_rfl, rfl, rfl, fun K n => by kernel_rfl, bd_Walk_asked, fun ql h => by cases h⟩
theorem bd_Walk_checked : Bd d_Walk_checked p_Walk_checked := ⟨fun _ _ _ _ _ _ _ us hl => match us, hl with | [_, _, _], _ => rfl, fun h => absurd rfl h⟩
theorem st_Walk_checked : DSt hs 57 ⟨3, 3, b_Walk_checked⟩ := ⟨d_Walk_checked, n_Walk_checked, p_Walk_checked, none, rfl, rfl, rfl, by decide, by kernel_rfl, rfl, rfl, fun K n => by kernel_rfl, bd_Walk_checked, fun ql h => by cases h⟩
theorem bd_Walk_through : Bd d_Walk_through p_Walk_through := ⟨fun _ _ _ _ _ _ _ us hl => match us, hl with | [_, _, _], _ => rfl, fun h => absurd rfl h⟩
theorem st_Walk_through : DSt hs 58 ⟨3, 4, b_Walk_through⟩ := ⟨d_Walk_through, n_Walk_through, p_Walk_through, none, rfl, rfl, rfl, by decide, by kernel_rfl, rfl, rfl, fun K n => by kernel_rfl, bd_Walk_through, fun ql h => by cases h⟩
theorem bd_Walk_things : Bd d_Walk_things p_Walk_things := ⟨fun _ _ _ _ _ _ _ us hl => match us, hl with | [_, _], _ => rfl, fun h => absurd rfl h⟩
theorem st_Walk_things : DSt hs 59 ⟨2, 2, b_Walk_things⟩ := ⟨d_Walk_things, n_Walk_things, p_Walk_things, none, rfl, rfl, rfl, by decide, by kernel_rfl, rfl, rfl, fun K n => by kernel_rfl, bd_Walk_things, fun ql h => by cases h⟩
theorem bd_Walk_way_out : Bd d_Walk_way_out p_Walk_way_out := ⟨fun _ _ _ _ _ _ _ us hl => match us, hl with | [_, _], _ => rfl, fun h => absurd rfl h⟩
theorem st_Walk_way_out : DSt hs 60 ⟨2, 4, b_Walk_way_out⟩ := ⟨d_Walk_way_out, n_Walk_way_out, p_Walk_way_out, none, rfl, rfl, rfl, by decide, by kernel_rfl, rfl, rfl, fun K n => by kernel_rfl, bd_Walk_way_out, fun ql h => by cases h⟩
theorem bd_straight : Bd d_straight p_straight := ⟨fun _ _ _ _ _ _ _ us hl => match us, hl with | [_, _], _ => rfl, fun h => absurd rfl h⟩
theorem st_straight : DSt hs 61 ⟨2, 6, b_straight⟩ := ⟨d_straight, n_straight, p_straight, none, rfl, rfl, rfl, by decide, by kernel_rfl, rfl, rfl, fun K n => by kernel_rfl, bd_straight, fun ql h => by cases h⟩
theorem bd_leaves_of : Bd d_leaves_of p_leaves_of := ⟨fun _ _ _ _ _ _ _ us hl => match us, hl with | [_], _ => rfl, fun h => absurd rfl h⟩
theorem st_leaves_of : DSt hs 62 ⟨1, 2, b_leaves_of⟩ := ⟨d_leaves_of, n_leaves_of, p_leaves_of, none, rfl, rfl, rfl, by decide, by kernel_rfl, rfl, rfl, fun K n => by kernel_rfl, bd_leaves_of, fun ql h => by cases h⟩
theorem bd_eaches_of : Bd d_eaches_of p_eaches_of := ⟨fun _ _ _ _ _ _ _ us hl => match us, hl with | [_], _ => rfl, fun h => absurd rfl h⟩
theorem st_eaches_of : DSt hs 63 ⟨1, 4, b_eaches_of⟩ := ⟨d_eaches_of, n_eaches_of, p_eaches_of, none, rfl, rfl, rfl, by decide, by kernel_rfl, rfl, rfl, fun K n => by kernel_rfl, bd_eaches_of, fun ql h => by cases h⟩
theorem bd_row_by : Bd d_row_by p_row_by := ⟨fun _ _ _ _ _ _ _ us hl => match us, hl with | [_, _, _, _], _ => rfl, fun h => absurd rfl h⟩
theorem st_row_by : DSt hs 64 ⟨4, 14, b_row_by⟩ := ⟨d_row_by, n_row_by, p_row_by, none, rfl, rfl, rfl, by decide, by kernel_rfl, rfl, rfl, fun K n => by kernel_rfl, bd_row_by, fun ql h => by cases h⟩
theorem bd_none_comes : Bd d_none_comes p_none_comes := ⟨fun _ _ _ _ _ _ _ us hl => match us, hl with | [_], _ => rfl, fun h => absurd rfl h⟩
theorem st_none_comes : DSt hs 65 ⟨1, 2, b_none_comes⟩ := ⟨d_none_comes, n_none_comes, p_none_comes, none, rfl, rfl, rfl, by decide, by kernel_rfl, rfl, rfl, fun K n => by kernel_rfl, bd_none_comes, fun ql h => by cases h⟩
theorem bd_first_row : Bd d_first_row p_first_row := ⟨fun _ _ _ _ _ _ _ us hl => match us, hl with | [_, _, _, _], _ => rfl, fun h => absurd rfl h⟩
theorem st_first_row : DSt hs 66 ⟨4, 8, b_first_row⟩ := ⟨d_first_row, n_first_row, p_first_row, none, rfl, rfl, rfl, by decide, by kernel_rfl, rfl, rfl, fun K n => by kernel_rfl, bd_first_row, fun ql h => by cases h⟩
theorem bd_come_to : Bd d_come_to p_come_to := by
  refine ⟨fun h => (by cases h), fun _ n j hn hj T kV doc pm an cdv ct us its hl hi => ?_⟩
  have hj : j ≤ 1 := hj
  have hn : n + (1 - j) = 3 := hn
  have hi : its.length = 1 := hi
  by_cases e0 : j = 0
  · subst e0
    obtain rfl : n = 2 := by omega
    exact match us, its, hl, hi with | [_, _], [_], _, _ => ⟨_, rfl, rfl⟩
  by_cases e1 : j = 1
  · subst e1
    obtain rfl : n = 3 := by omega
    exact match us, its, hl, hi with | [_, _, _], [_], _, _ => ⟨_, rfl, rfl⟩
  omega
theorem st_come_to : DSt hs 67 ⟨3, 3, b_come_to⟩ := ⟨d_come_to, n_come_to, p_come_to, none, rfl, rfl, rfl, by decide, by kernel_rfl, rfl, rfl, fun K n => by kernel_rfl, bd_come_to, fun ql h => by cases h⟩
theorem bd_met : Bd d_met p_met := by
  refine ⟨fun h => (by cases h), fun _ n j hn hj T kV doc pm an cdv ct us its hl hi => ?_⟩
  have hj : j ≤ 1 := hj
  have hn : n + (1 - j) = 3 := hn
  have hi : its.length = 1 := hi
  by_cases e0 : j = 0
  · subst e0
    obtain rfl : n = 2 := by omega
    exact match us, its, hl, hi with | [_, _], [_], _, _ => ⟨_, rfl, rfl⟩
  by_cases e1 : j = 1
  · subst e1
    obtain rfl : n = 3 := by omega
    exact match us, its, hl, hi with | [_, _, _], [_], _, _ => ⟨_, rfl, rfl⟩
  omega
theorem st_met : DSt hs 68 ⟨3, 3, b_met⟩ := ⟨d_met, n_met, p_met, none, rfl, rfl, rfl, by decide, by kernel_rfl, rfl, rfl, fun K n => by kernel_rfl, bd_met, fun ql h => by cases h⟩
theorem bd_two_ways : Bd d_two_ways p_two_ways := by
  refine ⟨fun h => (by cases h), fun _ n j hn hj T kV doc pm an cdv ct us its hl hi => ?_⟩
  have hj : j ≤ 1 := hj
  have hn : n + (1 - j) = 3 := hn
  have hi : its.length = 1 := hi
  by_cases e0 : j = 0
  · subst e0
    obtain rfl : n = 2 := by omega
    exact match us, its, hl, hi with | [_, _], [_], _, _ => ⟨_, rfl, rfl⟩
  by_cases e1 : j = 1
  · subst e1
    obtain rfl : n = 3 := by omega
    exact match us, its, hl, hi with | [_, _, _], [_], _, _ => ⟨_, rfl, rfl⟩
  omega
theorem st_two_ways : DSt hs 69 ⟨3, 11, b_two_ways⟩ := ⟨d_two_ways, n_two_ways, p_two_ways, none, rfl, rfl, rfl, by decide, by kernel_rfl, rfl, rfl, fun K n => by kernel_rfl, bd_two_ways, fun ql h => by cases h⟩
theorem bd_counted_in : Bd d_counted_in p_counted_in := ⟨fun _ _ _ _ _ _ _ us hl => match us, hl with | [_, _], _ => rfl, fun h => absurd rfl h⟩
theorem st_counted_in : DSt hs 70 ⟨2, 10, b_counted_in⟩ := ⟨d_counted_in, n_counted_in, p_counted_in, none, rfl, rfl, rfl, by decide, by kernel_rfl, rfl, rfl, fun K n => by kernel_rfl, bd_counted_in, fun ql h => by cases h⟩
theorem bd_ending : Bd d_ending p_ending := by
  refine ⟨fun h => (by cases h), fun _ n j hn hj T kV doc pm an cdv ct us its hl hi => ?_⟩
  have hj : j ≤ 1 := hj
  have hn : n + (1 - j) = 3 := hn
  have hi : its.length = 1 := hi
  by_cases e0 : j = 0
  · subst e0
    obtain rfl : n = 2 := by omega
    exact match us, its, hl, hi with | [_, _], [_], _, _ => ⟨_, rfl, rfl⟩
  by_cases e1 : j = 1
  · subst e1
    obtain rfl : n = 3 := by omega
    exact match us, its, hl, hi with | [_, _, _], [_], _, _ => ⟨_, rfl, rfl⟩
  omega
theorem st_ending : DSt hs 71 ⟨3, 11, b_ending⟩ := ⟨d_ending, n_ending, p_ending, none, rfl, rfl, rfl, by decide, by kernel_rfl, rfl, rfl, fun K n => by kernel_rfl, bd_ending, fun ql h => by cases h⟩
theorem bd_L_cell : Bd d_L_cell p_L_cell := ⟨fun _ _ _ _ _ _ _ us hl => match us, hl with | [_, _], _ => rfl, fun h => absurd rfl h⟩
theorem st_L_cell : DSt hs 72 ⟨2, 2, b_L_cell⟩ := ⟨d_L_cell, n_L_cell, p_L_cell, none, rfl, rfl, rfl, by decide, by kernel_rfl, rfl, rfl, fun K n => by kernel_rfl, bd_L_cell, fun ql h => by cases h⟩
theorem bd_L_name : Bd d_L_name p_L_name := ⟨fun _ _ _ _ _ _ _ us hl => match us, hl with | [_, _], _ => rfl, fun h => absurd rfl h⟩
theorem st_L_name : DSt hs 73 ⟨2, 5, b_L_name⟩ := ⟨d_L_name, n_L_name, p_L_name, none, rfl, rfl, rfl, by decide, by kernel_rfl, rfl, rfl, fun K n => by kernel_rfl, bd_L_name, fun ql h => by cases h⟩
theorem bd_L_paper : Bd d_L_paper p_L_paper := ⟨fun _ _ _ _ _ _ _ us hl => match us, hl with | [_, _, _, _], _ => rfl, fun h => absurd rfl h⟩
theorem st_L_paper : DSt hs 74 ⟨4, 7, b_L_paper⟩ := ⟨d_L_paper, n_L_paper, p_L_paper, none, rfl, rfl, rfl, by decide, by kernel_rfl, rfl, rfl, fun K n => by kernel_rfl, bd_L_paper, fun ql h => by cases h⟩
theorem bd_L_unknown : Bd d_L_unknown p_L_unknown := ⟨fun _ _ _ _ _ _ _ us hl => match us, hl with | [_, _], _ => rfl, fun h => absurd rfl h⟩
theorem st_L_unknown : DSt hs 75 ⟨2, 5, b_L_unknown⟩ := ⟨d_L_unknown, n_L_unknown, p_L_unknown, none, rfl, rfl, rfl, by decide, by kernel_rfl, rfl, rfl, fun K n => by kernel_rfl, bd_L_unknown, fun ql h => by cases h⟩
theorem bd_L_right : Bd d_L_right p_L_right := ⟨fun _ _ _ _ _ _ _ us hl => match us, hl with | [_, _, _, _], _ => rfl, fun h => absurd rfl h⟩
theorem st_L_right : DSt hs 76 ⟨4, 4, b_L_right⟩ := ⟨d_L_right, n_L_right, p_L_right, none, rfl, rfl, rfl, by decide, by kernel_rfl, rfl, rfl, fun K n => by kernel_rfl, bd_L_right, fun ql h => by cases h⟩
theorem bd_law : Bd d_law p_law := ⟨fun _ _ _ _ _ _ _ us hl => match us, hl with | [_], _ => rfl, fun h => absurd rfl h⟩
theorem st_law : DSt hs 77 ⟨1, 14, b_law⟩ := ⟨d_law, n_law, p_law, none, rfl, rfl, rfl, by decide, by kernel_rfl, rfl, rfl, fun K n => by kernel_rfl, bd_law, fun ql h => by cases h⟩

theorem hd : ∀ f F, hs.P.fns[f]? = some F → ESt hs f F
  | 0, F, h => by
    have e := Option.some.inj h
    subst e
    exact .d (by kernel_rfl) st_WrongKind___init__
  | 1, F, h => by
    have e := Option.some.inj h
    subst e
    exact .d (by kernel_rfl) st_is_whole
  | 2, F, h => by
    have e := Option.some.inj h
    subst e
    exact .d (by kernel_rfl) st_is_name
  | 3, F, h => by
    have e := Option.some.inj h
    subst e
    exact .d (by kernel_rfl) st_Kind___init__
  | 4, F, h => by
    have e := Option.some.inj h
    subst e
    exact .d (by kernel_rfl) st_Kind_fits
  | 5, F, h => by
    have e := Option.some.inj h
    subst e
    exact .d (by kernel_rfl) st_YesNo___init__
  | 6, F, h => by
    have e := Option.some.inj h
    subst e
    exact .d (by kernel_rfl) st_YesNo_fits
  | 7, F, h => by
    have e := Option.some.inj h
    subst e
    exact .d (by kernel_rfl) st_YesNo_rank
  | 8, F, h => by
    have e := Option.some.inj h
    subst e
    exact .d (by kernel_rfl) st_YesNo_sample
  | 9, F, h => by
    have e := Option.some.inj h
    subst e
    exact .d (by kernel_rfl) st_Whole_fits
  | 10, F, h => by
    have e := Option.some.inj h
    subst e
    exact .d (by kernel_rfl) st_Whole_rank
  | 11, F, h => by
    have e := Option.some.inj h
    subst e
    exact .d (by kernel_rfl) st_Whole_sample
  | 12, F, h => by
    have e := Option.some.inj h
    subst e
    exact .d (by kernel_rfl) st_Names___init__
  | 13, F, h => by
    have e := Option.some.inj h
    subst e
    exact .d (by kernel_rfl) st_Names_fits
  | 14, F, h => by
    have e := Option.some.inj h
    subst e
    exact .d (by kernel_rfl) st_Names_rank
  | 15, F, h => by
    have e := Option.some.inj h
    subst e
    exact .d (by kernel_rfl) st_Names_sample
  | 16, F, h => by
    have e := Option.some.inj h
    subst e
    exact .d (by kernel_rfl) st_Row___init__
  | 17, F, h => by
    have e := Option.some.inj h
    subst e
    exact .d (by kernel_rfl) st_Ask___init__
  | 18, F, h => by
    have e := Option.some.inj h
    subst e
    exact .d (by kernel_rfl) st_Check___init__
  | 19, F, h => by
    have e := Option.some.inj h
    subst e
    exact .d (by kernel_rfl) st_Sheet___init__
  | 20, F, h => by
    have e := Option.some.inj h
    subst e
    exact .d (by kernel_rfl) st_Paper___init__
  | 21, F, h => by
    have e := Option.some.inj h
    subst e
    exact .d (by kernel_rfl) st_kinds_of
  | 22, F, h => by
    have e := Option.some.inj h
    subst e
    exact .d (by kernel_rfl) st_put_in
  | 23, F, h => by
    have e := Option.some.inj h
    subst e
    exact .d (by kernel_rfl) st_put_together
  | 24, F, h => by
    have e := Option.some.inj h
    subst e
    exact .d (by kernel_rfl) st_compared
  | 25, F, h => by
    have e := Option.some.inj h
    subst e
    exact .d (by kernel_rfl) st_spanned
  | 26, F, h => by
    have e := Option.some.inj h
    subst e
    exact .d (by kernel_rfl) st_Saying_atoms
  | 27, F, h => by
    have e := Option.some.inj h
    subst e
    exact .d (by kernel_rfl) st_Saying_first_open
  | 28, F, h => by
    have e := Option.some.inj h
    subst e
    exact .d (by kernel_rfl) st_Compare___init__
  | 29, F, h => by
    have e := Option.some.inj h
    subst e
    exact .d (by kernel_rfl) st_Compare_settled
  | 30, F, h => by
    have e := Option.some.inj h
    subst e
    exact .d (by kernel_rfl) st_Compare_holds
  | 31, F, h => by
    have e := Option.some.inj h
    subst e
    exact .d (by kernel_rfl) st_Compare_sure
  | 32, F, h => by
    have e := Option.some.inj h
    subst e
    exact .d (by kernel_rfl) st_span_in
  | 33, F, h => by
    have e := Option.some.inj h
    subst e
    exact .d (by kernel_rfl) st_cut_for
  | 34, F, h => by
    have e := Option.some.inj h
    subst e
    exact .d (by kernel_rfl) st_Boxed___init__
  | 35, F, h => by
    have e := Option.some.inj h
    subst e
    exact .d (by kernel_rfl) st_Boxed_key
  | 36, F, h => by
    have e := Option.some.inj h
    subst e
    exact .d (by kernel_rfl) st_Boxed_sum_span
  | 37, F, h => by
    have e := Option.some.inj h
    subst e
    exact .d (by kernel_rfl) st_Boxed_look
  | 38, F, h => by
    have e := Option.some.inj h
    subst e
    exact .d (by kernel_rfl) st_Boxed_part_at
  | 39, F, h => by
    have e := Option.some.inj h
    subst e
    exact .d (by kernel_rfl) st_Boxed_agreed
  | 40, F, h => by
    have e := Option.some.inj h
    subst e
    exact .d (by kernel_rfl) st_Boxed_asked
  | 41, F, h => by
    have e := Option.some.inj h
    subst e
    exact .d (by kernel_rfl) st_Boxed_checked
  | 42, F, h => by
    have e := Option.some.inj h
    subst e
    exact .d (by kernel_rfl) st_Boxed_through
  | 43, F, h => by
    have e := Option.some.inj h
    subst e
    exact .d (by kernel_rfl) st_Boxed_turns_of
  | 44, F, h => by
    have e := Option.some.inj h
    subst e
    exact .d (by kernel_rfl) st_Boxed_way_out
  | 45, F, h => by
    have e := Option.some.inj h
    subst e
    exact .d (by kernel_rfl) st_Boxed_sheet_done
  | 46, F, h => by
    have e := Option.some.inj h
    subst e
    exact .d (by kernel_rfl) st_going_by
  | 47, F, h => by
    have e := Option.some.inj h
    subst e
    exact .d (by kernel_rfl) st_parts_of_box
  | 48, F, h => by
    have e := Option.some.inj h
    subst e
    exact .d (by kernel_rfl) st_ranges_of
  | 49, F, h => by
    have e := Option.some.inj h
    subst e
    exact .d (by kernel_rfl) st_cover
  | 50, F, h => by
    have e := Option.some.inj h
    subst e
    exact .d (by kernel_rfl) st_worth
  | 51, F, h => by
    have e := Option.some.inj h
    subst e
    exact .d (by kernel_rfl) st_reckon
  | 52, F, h => by
    have e := Option.some.inj h
    subst e
    exact .d (by kernel_rfl) st_total_of
  | 53, F, h => by
    have e := Option.some.inj h
    subst e
    exact .d (by kernel_rfl) st_Walk___init__
  | 54, F, h => by
    have e := Option.some.inj h
    subst e
    exact .d (by kernel_rfl) st_Walk_look
  | 55, F, h => by
    have e := Option.some.inj h
    subst e
    exact .d (by kernel_rfl) st_Walk_agreed
  | 56, F, h => by
    have e := Option.some.inj h
    subst e
    exact .d (by kernel_rfl) st_Walk_asked
  | 57, F, h => by
    have e := Option.some.inj h
    subst e
    exact .d (by kernel_rfl) st_Walk_checked
  | 58, F, h => by
    have e := Option.some.inj h
    subst e
    exact .d (by kernel_rfl) st_Walk_through
  | 59, F, h => by
    have e := Option.some.inj h
    subst e
    exact .d (by kernel_rfl) st_Walk_things
  | 60, F, h => by
    have e := Option.some.inj h
    subst e
    exact .d (by kernel_rfl) st_Walk_way_out
  | 61, F, h => by
    have e := Option.some.inj h
    subst e
    exact .d (by kernel_rfl) st_straight
  | 62, F, h => by
    have e := Option.some.inj h
    subst e
    exact .d (by kernel_rfl) st_leaves_of
  | 63, F, h => by
    have e := Option.some.inj h
    subst e
    exact .d (by kernel_rfl) st_eaches_of
  | 64, F, h => by
    have e := Option.some.inj h
    subst e
    exact .d (by kernel_rfl) st_row_by
  | 65, F, h => by
    have e := Option.some.inj h
    subst e
    exact .d (by kernel_rfl) st_none_comes
  | 66, F, h => by
    have e := Option.some.inj h
    subst e
    exact .d (by kernel_rfl) st_first_row
  | 67, F, h => by
    have e := Option.some.inj h
    subst e
    exact .d (by kernel_rfl) st_come_to
  | 68, F, h => by
    have e := Option.some.inj h
    subst e
    exact .d (by kernel_rfl) st_met
  | 69, F, h => by
    have e := Option.some.inj h
    subst e
    exact .d (by kernel_rfl) st_two_ways
  | 70, F, h => by
    have e := Option.some.inj h
    subst e
    exact .d (by kernel_rfl) st_counted_in
  | 71, F, h => by
    have e := Option.some.inj h
    subst e
    exact .d (by kernel_rfl) st_ending
  | 72, F, h => by
    have e := Option.some.inj h
    subst e
    exact .d (by kernel_rfl) st_L_cell
  | 73, F, h => by
    have e := Option.some.inj h
    subst e
    exact .d (by kernel_rfl) st_L_name
  | 74, F, h => by
    have e := Option.some.inj h
    subst e
    exact .d (by kernel_rfl) st_L_paper
  | 75, F, h => by
    have e := Option.some.inj h
    subst e
    exact .d (by kernel_rfl) st_L_unknown
  | 76, F, h => by
    have e := Option.some.inj h
    subst e
    exact .d (by kernel_rfl) st_L_right
  | 77, F, h => by
    have e := Option.some.inj h
    subst e
    exact .d (by kernel_rfl) st_law
  | 78, F, h => by
    have e := Option.some.inj h
    subst e
    exact .l (L := lam_0) (x := lamx_0) (e := e_lam0) (by kernel_rfl) (by kernel_rfl) (fun _ _ _ _ _ => rfl) (by kernel_rfl) (fun K n => by kernel_rfl)
  | 79, F, h => by
    have e := Option.some.inj h
    subst e
    exact .l (L := lam_1) (x := lamx_1) (e := e_lam1) (by kernel_rfl) (by kernel_rfl) (fun _ _ _ _ _ => rfl) (by kernel_rfl) (fun K n => by kernel_rfl)
  | 80, F, h => by
    have e := Option.some.inj h
    subst e
    exact .l (L := lam_2) (x := lamx_2) (e := e_lam2) (by kernel_rfl) (by kernel_rfl) (fun _ _ _ _ _ => rfl) (by kernel_rfl) (fun K n => by kernel_rfl)
  | 81, F, h => by
    have e := Option.some.inj h
    subst e
    exact .l (L := lam_3) (x := lamx_3) (e := e_lam3) (by kernel_rfl) (by kernel_rfl) (fun _ _ _ _ _ => rfl) (by kernel_rfl) (fun K n => by kernel_rfl)
  | n + 82, F, h => by
    have e : hs.P.fns[n + 82]? = none := List.getElem?_eq_none (by show 82 ≤ n + 82; omega)
    rw [e] at h
    cases h
end Hd
open PySem PySem.W PySem.Calls PyProof.Rows
theorem PySem.Challenge.cw_askpaper_k67_most_left_out_holds : PySem.Challenge.rw_askpaper_k67_most_left_out.Holds := by
  w_on; o_law
  refine HandSHeadRun.head_any (r := OpenLaw.row PySem.Challenge.rw_askpaper_k67_most_left_out) (q := view (OpenLaw.row PySem.Challenge.rw_askpaper_k67_most_left_out).prog [70]) (H := Hd.hk) (ob := Hd.ob) (M := 20000) (loose := Hd.names) (d := HandSHeadRun.topDef (OpenLaw.row PySem.Challenge.rw_askpaper_k67_most_left_out).prog 70) (kwd := []) Hd.ob_eq
    (by kernel_rfl) (fun s => by kernel_rfl) Hd.run (by kernel_rfl) (by kernel_rfl) (by kernel_rfl) (by rfl) (by first | assumption | decide +kernel) (by decide +kernel) ⟨rfl, rfl, rfl, rfl, rfl, by decide +kernel⟩ ?hw ?hc
  case hw => w_witness2
  case hc =>
    refine LamX.walk_ofTsE (l := PySem.Challenge.rw_askpaper_k67_most_left_out) (k := 122) (x := "_law_script") (CX := fun _ _ _ _ _ _ _ => False) rfl (by decide) (by kernel_rfl) ⟨rfl, by decide, by decide⟩ ?F (fun _ _ _ _ _ z => z)
    intro w mg fa hp Y G hmg0
    have hmg : mg ("law" : PySem.Str) = some (.ref fa) := by
      have e : (HandSHeadRun.topDef (OpenLaw.row PySem.Challenge.rw_askpaper_k67_most_left_out).prog 70).name = ("law" : PySem.Str) := by kernel_rfl
      rw [← e]
      exact hmg0
    refine Co.law_facts (h := Tx.hs) (l := PySem.Challenge.rw_askpaper_k67_most_left_out) (n := 60) (f := Tx.f_law) (d := Tx.d_law) (N := Tx.n_law) Y G (by kernel_rfl) Hd.hd rfl rfl rfl rfl rfl (by kernel_rfl) rfl rfl (fun K n => by kernel_rfl) Hd.bd_law ?_ Hd.hrun
    intro K hK c
    have e := (Co.lk_of hK G (by kernel_rfl) c.ok).fn "law" Tx.f_law (by kernel_rfl)
    exact (Value.ref.inj (Option.some.inj (hmg.symm.trans e)))

