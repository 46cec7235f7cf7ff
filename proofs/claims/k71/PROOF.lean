import PyProof.Rows.All
import HandS.ForMost
import HandS.Evl
import HandS.Flow
import HandS.IsInst
import HandS.ExcOwn
import HandS.WordsExc
import HandS.CallSlots
import HandS.Style
import HandS.Wide
import HandS.TupAny
import HandS.Deep
import HandS.Iter
import HandS.Walk
import HandS.Rev
import HandS.ClsMeth
import HandS.Conv
import KE.GoesRev
import HandS.Defaults
import HandS.HeadHook2
import HandS.HeadEnd
import HandS.Head0
import HandS.Head1
import HandS.Head2
import PySem.Challenge.RW_askpaper_k71_pages_of_plain_papers
set_option linter.all false
set_option maxRecDepth 100000
/-! Co1: a small language of values and cells: what it computes. -/
namespace Co
open PySem L2

/-- a value: frozen data as trees, a cell for what may change -/
inductive D where
  | non | bl (b : Bool) | int (i : Int) | str (x : Str)
  | tup (xs : List D) | lst (xs : List D) | dic (t : Bool) (kvs : List (D × D)) | ins (c : Nat) (fs : List (Nat × D))
  | cell (i : Nat) | wtup (xs : List D)

/-! ### equality of values is decidable -/
mutual
def D.dec : (a b : D) → Decidable (a = b)
  | .non, b => match b with
    | .non => .isTrue rfl
    | .bl _ | .int _ | .str _ | .tup _ | .lst _ | .dic _ _ | .ins _ _ | .cell _ | .wtup _ => .isFalse (fun e => nomatch e)
  | .bl x, b => match b with
    | .bl y => if h : x = y then .isTrue (by rw [h]) else .isFalse (fun e => h (D.bl.inj e))
    | .non | .int _ | .str _ | .tup _ | .lst _ | .dic _ _ | .ins _ _ | .cell _ | .wtup _ => .isFalse (fun e => nomatch e)
  | .int x, b => match b with
    | .int y => if h : x = y then .isTrue (by rw [h]) else .isFalse (fun e => h (D.int.inj e))
    | .non | .bl _ | .str _ | .tup _ | .lst _ | .dic _ _ | .ins _ _ | .cell _ | .wtup _ => .isFalse (fun e => nomatch e)
  | .str x, b => match b with
    | .str y => if h : x = y then .isTrue (by rw [h]) else .isFalse (fun e => h (D.str.inj e))
    | .non | .bl _ | .int _ | .tup _ | .lst _ | .dic _ _ | .ins _ _ | .cell _ | .wtup _ => .isFalse (fun e => nomatch e)
  | .tup x, b => match b with
    | .tup y => match D.decs x y with
      | .isTrue h => .isTrue (by rw [h])
      | .isFalse h => .isFalse (fun e => h (D.tup.inj e))
    | .non | .bl _ | .int _ | .str _ | .lst _ | .dic _ _ | .ins _ _ | .cell _ | .wtup _ => .isFalse (fun e => nomatch e)
  | .lst x, b => match b with
    | .lst y => match D.decs x y with
      | .isTrue h => .isTrue (by rw [h])
      | .isFalse h => .isFalse (fun e => h (D.lst.inj e))
    | .non | .bl _ | .int _ | .str _ | .tup _ | .dic _ _ | .ins _ _ | .cell _ | .wtup _ => .isFalse (fun e => nomatch e)
  | .dic t x, b => match b with
    | .dic u y => if h : t = u then match D.decp x y with
      | .isTrue h2 => .isTrue (by rw [h, h2])
      | .isFalse h2 => .isFalse (fun e => h2 (D.dic.inj e).2)
      else .isFalse (fun e => h (D.dic.inj e).1)
    | .non | .bl _ | .int _ | .str _ | .tup _ | .lst _ | .ins _ _ | .cell _ | .wtup _ => .isFalse (fun e => nomatch e)
  | .ins t x, b => match b with
    | .ins u y => if h : t = u then match D.decf x y with
      | .isTrue h2 => .isTrue (by rw [h, h2])
      | .isFalse h2 => .isFalse (fun e => h2 (D.ins.inj e).2)
      else .isFalse (fun e => h (D.ins.inj e).1)
    | .non | .bl _ | .int _ | .str _ | .tup _ | .lst _ | .dic _ _ | .cell _ | .wtup _ => .isFalse (fun e => nomatch e)
  | .cell x, b => match b with
    | .cell y => if h : x = y then .isTrue (by rw [h]) else .isFalse (fun e => h (D.cell.inj e))
    | .non | .bl _ | .int _ | .str _ | .tup _ | .lst _ | .dic _ _ | .ins _ _ | .wtup _ => .isFalse (fun e => nomatch e)
  | .wtup x, b => match b with
    | .wtup y => match D.decs x y with
      | .isTrue h => .isTrue (by rw [h])
      | .isFalse h => .isFalse (fun e => h (D.wtup.inj e))
    | .non | .bl _ | .int _ | .str _ | .tup _ | .lst _ | .dic _ _ | .ins _ _ | .cell _ => .isFalse (fun e => nomatch e)
termination_by structural x => x
def D.decs : (a b : List D) → Decidable (a = b)
  | [], b => match b with
    | [] => .isTrue rfl
    | _ :: _ => .isFalse (fun e => nomatch e)
  | x :: r, b => match b with
    | [] => .isFalse (fun e => nomatch e)
    | y :: s => match D.dec x y with
      | .isTrue h => match D.decs r s with
        | .isTrue h2 => .isTrue (by rw [h, h2])
        | .isFalse h2 => .isFalse (fun e => h2 (List.cons.inj e).2)
      | .isFalse h => .isFalse (fun e => h (List.cons.inj e).1)
termination_by structural x => x
def D.decp : (a b : List (D × D)) → Decidable (a = b)
  | [], b => match b with
    | [] => .isTrue rfl
    | _ :: _ => .isFalse (fun e => nomatch e)
  | x :: r, b => match b with
    | [] => .isFalse (fun e => nomatch e)
    | y :: s => match D.decq x y with
      | .isTrue h => match D.decp r s with
        | .isTrue h2 => .isTrue (by rw [h, h2])
        | .isFalse h2 => .isFalse (fun e => h2 (List.cons.inj e).2)
      | .isFalse h => .isFalse (fun e => h (List.cons.inj e).1)
termination_by structural x => x
def D.decq : (a b : D × D) → Decidable (a = b)
  | (k, v), b => match D.dec k b.1 with
    | .isTrue h => match D.dec v b.2 with
      | .isTrue h2 => .isTrue (by cases b; simp only at h h2; rw [h, h2])
      | .isFalse h2 => .isFalse (fun e => h2 (by rw [← e]))
    | .isFalse h => .isFalse (fun e => h (by rw [← e]))
termination_by structural x => x
def D.decf : (a b : List (Nat × D)) → Decidable (a = b)
  | [], b => match b with
    | [] => .isTrue rfl
    | _ :: _ => .isFalse (fun e => nomatch e)
  | x :: r, b => match b with
    | [] => .isFalse (fun e => nomatch e)
    | y :: s => match D.decg x y with
      | .isTrue h => match D.decf r s with
        | .isTrue h2 => .isTrue (by rw [h, h2])
        | .isFalse h2 => .isFalse (fun e => h2 (List.cons.inj e).2)
      | .isFalse h => .isFalse (fun e => h (List.cons.inj e).1)
termination_by structural x => x
def D.decg : (a b : Nat × D) → Decidable (a = b)
  | (k, v), b => if h : k = b.1 then match D.dec v b.2 with
      | .isTrue h2 => .isTrue (by cases b; simp only at h h2; rw [h, h2])
      | .isFalse h2 => .isFalse (fun e => h2 (by rw [← e]))
    else .isFalse (fun e => h (by rw [← e]))
termination_by structural x => x
end
instance : DecidableEq D := D.dec

inductive Cell where
  | dead | lst (xs : List D) | dic (t : Bool) (kvs : List (D × D)) | ins (c : Nat) (fs : List (Nat × D)) | ldic (t : Bool) (kvs : List (D × D))
  deriving DecidableEq
abbrev Store := List Cell

/-! ### which cells a value names -/
mutual
def D.lt (n : Nat) : D → Bool
  | .tup xs => D.lts n xs
  | .wtup xs => D.lts n xs
  | .lst xs => D.lts n xs
  | .dic _ kvs => D.ltp n kvs
  | .ins _ fs => D.ltf n fs
  | .cell i => decide (i < n)
  | _ => true
termination_by structural x => x
def D.lts (n : Nat) : List D → Bool
  | [] => true
  | x :: r => x.lt n && D.lts n r
termination_by structural x => x
def D.ltp (n : Nat) : List (D × D) → Bool
  | [] => true
  | p :: r => D.ltq n p && D.ltp n r
termination_by structural x => x
def D.ltq (n : Nat) : D × D → Bool
  | (k, v) => k.lt n && v.lt n
termination_by structural x => x
def D.ltf (n : Nat) : List (Nat × D) → Bool
  | [] => true
  | p :: r => D.ltg n p && D.ltf n r
termination_by structural x => x
def D.ltg (n : Nat) : Nat × D → Bool
  | (_, v) => v.lt n
termination_by structural x => x
end
def Cell.lt (n : Nat) : Cell → Bool
  | .dead => true
  | .lst xs => D.lts n xs
  | .dic _ kvs => D.ltp n kvs
  | .ins _ fs => D.ltf n fs
  | .ldic _ kvs => D.ltp n kvs
/-- neither gone nor locked -/
def Cell.free : Cell → Bool
  | .dead => false
  | .ldic _ _ => false
  | _ => true
/-- the cells of old that stand in new as they were, or name old cells alone -/
def keeps (n : Nat) : Store → Store → Bool
  | [], _ => true
  | _ :: _, [] => false
  | c :: r, c' :: r' => (decide (c' = c) || c'.lt n) && keeps n r r'

/-! ### data: no instance, no cell within; equality -/
mutual
def D.dat (n : Nat) : D → Bool
  | .tup xs => match n with
    | 0 => false
    | n + 1 => D.dats n xs
  | .wtup xs => match n with
    | 0 => false
    | n + 1 => D.dats n xs
  | .lst xs => match n with
    | 0 => false
    | n + 1 => D.dats n xs
  | .dic _ _ => false
  | .ins _ _ => false
  | .cell _ => false
  | .non => true
  | .bl _ => true
  | .int _ => true
  | .str _ => true
termination_by structural x => x
def D.dats (n : Nat) : List D → Bool
  | [] => true
  | x :: r => x.dat n && D.dats n r
termination_by structural x => x
end
def b2n (b : Bool) : Int := if b then 1 else 0
def kfind : List (D × D) → D → Option D
  | [], _ => none
  | (k, v) :: r, q => if k = q then some v else kfind r q
def kput (l : List (D × D)) (q w : D) : List (D × D) := if (l.any fun p => decide (p.1 = q)) = true then l.map (fun p => if p.1 = q then (p.1, w) else p) else l ++ [(q, w)]
def kdrop (l : List (D × D)) (q : D) : List (D × D) := l.filter fun p => decide (p.1 ≠ q)
mutual
def D.eqv : D → D → Bool
  | .non, e => match e with
    | .non => true
    | _ => false
  | .bl x, e => match e with
    | .bl y => x == y
    | .int y => b2n x == y
    | _ => false
  | .int x, e => match e with
    | .bl y => x == b2n y
    | .int y => x == y
    | _ => false
  | .str x, e => match e with
    | .str y => decide (x = y)
    | _ => false
  | .tup xs, e => match e with
    | .tup ys => D.eqvs xs ys
    | .wtup ys => D.eqvs xs ys
    | _ => false
  | .wtup xs, e => match e with
    | .tup ys => D.eqvs xs ys
    | .wtup ys => D.eqvs xs ys
    | _ => false
  | .lst xs, e => match e with
    | .lst ys => D.eqvs xs ys
    | _ => false
  | .dic _ xs, e => match e with
    | .dic _ ys => xs.length == ys.length && D.eqvp xs ys
    | _ => false
  | .ins _ _, _ => false
  | .cell _, _ => false
termination_by structural x => x
def D.eqvs : List D → List D → Bool
  | [], e => match e with
    | [] => true
    | _ => false
  | x :: r, e => match e with
    | y :: s => x.eqv y && D.eqvs r s
    | _ => false
termination_by structural x => x
def D.eqvp : List (D × D) → List (D × D) → Bool
  | [], _ => true
  | p :: r, ys => D.eqvq p ys && D.eqvp r ys
termination_by structural x => x
def D.eqvq : D × D → List (D × D) → Bool
  | (k, v), ys => match kfind ys k with
    | some u => v.eqv u
    | none => false
termination_by structural x => x
end

/-! ### what comes of a piece of text -/
/-- an exception: its class, its fields -/
structure Exn where
  c : Nat
  fs : List (Nat × D)
inductive Res (ε α : Type) where
  | ok (a : α) (μ : Store) | ex (x : ε) (μ : Store) | bad
def Res.bind {ε α β : Type} (r : Res ε α) (f : α → Store → Res ε β) : Res ε β := match r with
  | .ok a μ => f a μ
  | .ex x μ => .ex x μ
  | .bad => .bad
@[simp] theorem Res.bind_ok {ε α β : Type} (a : α) (μ : Store) (f : α → Store → Res ε β) : (Res.ok a μ).bind f = f a μ := rfl
@[simp] theorem Res.bind_ex {ε α β : Type} (a : ε) (μ : Store) (f : α → Store → Res ε β) : (Res.ex a μ).bind f = .ex a μ := rfl
@[simp] theorem Res.bind_bad {ε α β : Type} (f : α → Store → Res ε β) : (Res.bad : Res ε α).bind f = .bad := rfl
def ofO {ε α : Type} (o : Option α) (μ : Store) : Res ε α := match o with
  | some a => .ok a μ
  | none => .bad
@[simp] theorem ofO_some {ε α : Type} (a : α) (μ : Store) : (ofO (some a) μ : Res ε α) = .ok a μ := rfl
@[simp] theorem ofO_none {ε α : Type} (μ : Store) : (ofO (none : Option α) μ : Res ε α) = .bad := rfl
abbrev RD := Res Exn D

/-! ### views -/
def lstOf (μ : Store) : D → Option (List D)
  | .lst xs => some xs
  | .cell i => match μ[i]? with
    | some (.lst xs) => some xs
    | _ => none
  | _ => none
def dicOf (μ : Store) : D → Option (Bool × List (D × D))
  | .dic t kvs => some (t, kvs)
  | .cell i => match μ[i]? with
    | some (.dic t kvs) => some (t, kvs)
    | some (.ldic t kvs) => some (t, kvs)
    | _ => none
  | _ => none
def insOf (μ : Store) : D → Option (Nat × List (Nat × D))
  | .ins c fs => some (c, fs)
  | .cell i => match μ[i]? with
    | some (.ins c fs) => some (c, fs)
    | _ => none
  | _ => none
def seqOf (μ : Store) : D → Option (List D)
  | .tup xs => some xs
  | .wtup xs => some xs
  | d => lstOf μ d
/-- a cell's content as frozen data -/
def still (μ : Store) : D → Option D
  | .cell i => match μ[i]? with
    | some (.lst xs) => some (.lst xs)
    | some (.dic t kvs) => some (.dic t kvs)
    | some (.ins c fs) => some (.ins c fs)
    | _ => none
  | d => some d
def signs (x : Str) : List D := x.cps.toList.map fun c => .str ⟨#[c]⟩

/-! ### operators -/
inductive BinO where
  | add | sub | mul | mod | fdiv | pow
  deriving DecidableEq
inductive CmpO where
  | lt | le | gt | ge | eq | ne | isin | notin | is | isnt
  deriving DecidableEq
def mulB (i j : Int) : Bool := decide (i.natAbs.log2 + j.natAbs.log2 < 1000000)
def divB (j : Int) : Bool := decide (0 < j ∧ j.natAbs.log2 < 9000)
def mulSB (a : Str) (n : Int) : Bool := decide (-1000000 ≤ n ∧ n ≤ 1000000 ∧ a.length ≤ 16)
def powB (i j : Int) : Bool := decide (0 ≤ j ∧ j ≤ 1000000 ∧ i.natAbs < 2 ^ 64)
def sz (n : Nat) : Bool := decide (n ≤ sizeLine)
def binS (μ : Store) : BinO → D → D → RD
  | .add, d, e => match d, e with
    | .int i, .int j => .ok (.int (i + j)) μ
    | .str a, .str b => if sz (a.length + b.length) then .ok (.str (a ++ b)) μ else .bad
    | .tup xs, .tup ys => if sz (xs.length + ys.length) then .ok (.tup (xs ++ ys)) μ else .bad
    | d, e => match lstOf μ d, lstOf μ e with
      | some xs, some ys => if sz (xs.length + ys.length) then .ok (.lst (xs ++ ys)) μ else .bad
      | _, _ => .bad
  | .sub, .int i, .int j => .ok (.int (i - j)) μ
  | .mul, .int i, .int j => if mulB i j then .ok (.int (i * j)) μ else .bad
  | .mul, .str a, .int n => if mulSB a n then .ok (.str (Txt.mul a n)) μ else .bad
  | .mod, .int i, .int j => if decide (0 < j) then .ok (.int (i % j)) μ else .bad
  | .fdiv, .int i, .int j => if divB j then .ok (.int (i / j)) μ else .bad
  | .pow, .int i, .int j => if powB i j then .ok (.int (i ^ j.toNat)) μ else .bad
  | _, _, _ => .bad
/-- None, truths, whole numbers, texts -/
def D.flat : D → Bool
  | .non => true
  | .bl _ => true
  | .int _ => true
  | .str _ => true
  | _ => false
def D.isKey : D → Bool
  | .int _ => true
  | .str _ => true
  | _ => false
def keyB (t : Bool) (k : D) : Bool := match t, k with
  | false, k => k.isKey
  | true, .tup ks => ks.all D.isKey
  | true, _ => false
def eqS (μ : Store) (d e : D) : Option Bool := match still μ d, still μ e with
  | some d, some e => if d.dat 60 && e.dat 60 then some (d.eqv e) else none
  | _, _ => none
def inS (μ : Store) (d e : D) : Option Bool := match dicOf μ e with
  | some (t, kvs) => if keyB t d then some (kfind kvs d).isSome else none
  | none => match d, e with
    | .str x, .str y => some (!(Builtin.Str.occurrences y x 0 y.length 1).isEmpty)
    | d, .tup xs => if d.flat && xs.all D.flat then some (xs.any fun x => x.eqv d) else none
    | d, .wtup xs => if d.flat && xs.all D.flat then some (xs.any fun x => x.eqv d) else none
    | d, e => match lstOf μ e with
      | some xs => if d.dat 60 && D.dats 59 xs then some (xs.any fun x => x.eqv d) else none
      | none => none
def cmpS (μ : Store) : CmpO → D → D → Option Bool
  | .lt, .int i, .int j => some (decide (i < j))
  | .le, .int i, .int j => some (decide (i ≤ j))
  | .gt, .int i, .int j => some (decide (j < i))
  | .ge, .int i, .int j => some (decide (j ≤ i))
  | .eq, d, e => eqS μ d e
  | .ne, d, e => (eqS μ d e).map (!·)
  | .isin, d, e => inS μ d e
  | .notin, d, e => (inS μ d e).map (!·)
  | .is, d, .non => some (decide (d = .non))
  | .isnt, d, .non => some (!decide (d = .non))
  | .is, .bl a, .bl b => some (decide (a = b))
  | .isnt, .bl a, .bl b => some (!decide (a = b))
  | _, _, _ => none
def truth (μ : Store) : D → Option Bool
  | .non => some false
  | .bl b => some b
  | .int i => some (i != 0)
  | .str x => if sz x.length then some (x.length != 0) else none
  | .tup xs => some (!xs.isEmpty)
  | .wtup xs => some (!xs.isEmpty)
  | d => match lstOf μ d with
    | some xs => some (!xs.isEmpty)
    | none => none
end Co

set_option linter.all false
set_option maxRecDepth 100000
/-! Co2: the text of the small language, and its evaluator. -/
namespace Co
open PySem L2

/-! ### built-ins -/
inductive Ty where
  | own (c : Nat) | int | bool | str | list | tuple | dict
  deriving DecidableEq
/-- what kind of thing a value is -/
inductive Kd where
  | own (c : Nat) | ty (n : String)
def kindOf (μ : Store) : D → Option Kd
  | .non => some (.ty "NoneType")
  | .bl _ => some (.ty "bool")
  | .int _ => some (.ty "int")
  | .str _ => some (.ty "str")
  | .tup _ => some (.ty "tuple")
  | .wtup _ => some (.ty "tuple")
  | .lst _ => some (.ty "list")
  | .dic false _ => some (.ty "dict")
  | .dic true _ => none
  | .ins c _ => some (.own c)
  | .cell i => match μ[i]? with
    | some (.lst _) => some (.ty "list")
    | some (.dic _ _) => some (.ty "dict")
    | some (.ins c _) => some (.own c)
    | _ => none
def tyN : Ty → String
  | .own _ => ""
  | .int => "int"
  | .bool => "bool"
  | .str => "str"
  | .list => "list"
  | .tuple => "tuple"
  | .dict => "dict"
/-- sub: each class's classes above it, itself among them -/
def isiK (sub : List (List Nat)) : Kd → Ty → Bool
  | .own b, .own c => (sub.getD b []).contains c
  | .ty _, .own _ => false
  | .own _, _ => false
  | .ty n, t => decide (n = tyN t) || (decide (n = "bool") && decide (tyN t = "int"))
def kdB (n : Nat) : Kd → Bool
  | .own c => decide (c < n)
  | .ty _ => true
def isi (sub : List (List Nat)) (μ : Store) (d : D) (t : Ty) : Option Bool := (kindOf μ d).bind fun k => if kdB sub.length k then some (isiK sub k t) else none
inductive BI where
  | len | str | int | list (fz : Bool) | tuple | dict (fz : Bool) | lenset | sorted (fz : Bool) | sum | abs | min | max | divmod
  deriving DecidableEq
def lenOf (μ : Store) : D → Option Nat
  | .str x => if sz x.length then some x.length else none
  | d => match seqOf μ d with
    | some xs => some xs.length
    | none => none
def put (μ : Store) (fz : Bool) (d : D) : RD := match fz, d with
  | true, d => .ok d μ
  | false, .lst xs => .ok (.cell μ.length) (μ ++ [.lst xs])
  | false, .dic t kvs => .ok (.cell μ.length) (μ ++ [.dic t kvs])
  | false, _ => .bad
def allInt : List D → Option (List Int)
  | [] => some []
  | .int i :: r => (allInt r).map (i :: ·)
  | _ :: _ => none
def allStr : List D → Option (List Str)
  | [] => some []
  | .str i :: r => (allStr r).map (i :: ·)
  | _ :: _ => none
/-- an order on texts, on tuples of texts -/
def strLt (a b : Str) : Bool := decide (a.cps.toList < b.cps.toList)
def D.lt2 : D → D → Bool
  | .str a, .str b => strLt a b
  | .tup [.str a, .str b], .tup [.str c, .str d] => strLt a c || (decide (a = c) && strLt b d)
  | _, _ => false
def sortable : List D → Bool
  | xs => xs.all (fun d => match d with | .str _ => true | _ => false) || xs.all (fun d => match d with | .tup [.str _, .str _] => true | _ => false)
def ins1 (d : D) : List D → List D
  | [] => [d]
  | e :: r => if D.lt2 d e then d :: e :: r else e :: ins1 d r
def sortD : List D → List D
  | [] => []
  | d :: r => ins1 d (sortD r)
def distinct : List Str → List Str
  | [] => []
  | x :: r => if x ∈ r then distinct r else x :: distinct r
/-- pairs of a key and a thing -/
def pairsD : List D → Option (List (D × D))
  | [] => some []
  | .tup [k, v] :: r => if k.isKey then (pairsD r).map ((k, v) :: ·) else none
  | _ :: _ => none
def mergeD : List (D × D) → List (D × D) → List (D × D)
  | kvs, [] => kvs
  | kvs, (k, v) :: r => mergeD (kput kvs k v) r
def keysOr (μ : Store) (d : D) : Option (List D) := match dicOf μ d with
  | some (_, kvs) => some (kvs.map fun (p : D × D) => p.1)
  | none => seqOf μ d
def biS (μ : Store) : BI → List D → RD
  | .len, [d] => ofO ((lenOf μ d).map fun n => .int n) μ
  | .str, [.int i] => if decide (i.natAbs.log2 < 1920) then .ok (.str (toString i)) μ else .bad
  | .int, [.int i] => .ok (.int i) μ
  | .int, [.bl b] => .ok (.int (b2n b)) μ
  | .int, [.str x] => if decide (x.length ≤ 640) then ofO ((PySem.intText? x).map D.int) μ else .bad
  | .list fz, [d] => match seqOf μ d with
    | some xs => put μ fz (.lst xs)
    | none => .bad
  | .tuple, [.tup xs] => .ok (.tup xs) μ
  | .tuple, [.wtup xs] => .ok (.wtup xs) μ
  | .tuple, [d] => match lstOf μ d with
    | some xs => .ok (.tup xs) μ
    | none => .bad
  | .dict fz, [d] => match (lstOf μ d).bind pairsD with
    | some kvs => put μ fz (.dic false (mergeD [] kvs))
    | none => .bad
  | .lenset, [d] => match (seqOf μ d).bind allStr with
    | some xs => if decide (xs.length ≤ 100) then .ok (.int (distinct xs).length) μ else .bad
    | none => .bad
  | .sorted fz, [d] => match keysOr μ d with
    | some xs => if decide (xs.length < 64) && sortable xs then put μ fz (.lst (sortD xs)) else .bad
    | none => .bad
  | .sum, [d] => match (lstOf μ d).bind allInt with
    | some ns => .ok (.int ns.sum) μ
    | none => .bad
  | .abs, [.int i] => .ok (.int (if i < 0 then -i else i)) μ
  | .min, [.int i, .int j] => .ok (.int (if j < i then j else i)) μ
  | .max, [.int i, .int j] => .ok (.int (if j > i then j else i)) μ
  | _, _ => .bad
inductive BM where
  | append | extend | clear | get | split | join | startswith | strip | partition | index | setdefault (fz : Bool) | pop | zfill
  deriving DecidableEq
/-- which things have the method -/
def bmTy (μ : Store) : BM → D → Bool
  | .append, d => (lstOf μ d).isSome
  | .extend, d => (lstOf μ d).isSome
  | .index, d => (lstOf μ d).isSome
  | .clear, d => (lstOf μ d).isSome || (dicOf μ d).isSome
  | .pop, d => (lstOf μ d).isSome || (dicOf μ d).isSome
  | .get, d => (dicOf μ d).isSome
  | .setdefault _, d => (dicOf μ d).isSome
  | _, .str _ => true
  | _, _ => false
def indexOf (d : D) : List D → Option Nat
  | [] => none
  | x :: r => if x.eqv d then some 0 else (indexOf d r).map (· + 1)
def bmS (μ : Store) : BM → D → List D → RD
  | .append, .cell i, [d] => match μ[i]? with
    | some (.lst xs) => if sz (xs.length + 1) then .ok .non (μ.set i (.lst (xs ++ [d]))) else .bad
    | _ => .bad
  | .extend, .cell i, [d] => match μ[i]?, lstOf μ d with
    | some (.lst xs), some ys => if sz (xs.length + ys.length) then .ok .non (μ.set i (.lst (xs ++ ys))) else .bad
    | _, _ => .bad
  | .clear, .cell i, [] => match μ[i]? with
    | some (.lst _) => .ok .non (μ.set i (.lst []))
    | _ => .bad
  | .get, d, [k] => match dicOf μ d with
    | some (t, kvs) => if keyB t k then .ok ((kfind kvs k).getD .non) μ else .bad
    | none => .bad
  | .get, d, [k, e] => match dicOf μ d with
    | some (t, kvs) => if keyB t k then .ok ((kfind kvs k).getD e) μ else .bad
    | none => .bad
  | .split, .str a, [.str b] => if !(b.length == 0) && b.cps.all (· < 256) && sz (a.length + 2) then .ok (.lst ((Txt.split a b).map D.str)) μ else .bad
  | .join, .str a, [d] => match (seqOf μ d).bind allStr with
    | some xs => if decide ((xs.map (·.length)).sum + xs.length * a.length ≤ 16777216) then .ok (.str (Txt.join a xs)) μ else .bad
    | none => .bad
  | .startswith, .str a, [.str b] => .ok (.bl (Txt.startswith a b)) μ
  | .index, d, [e] => match lstOf μ d with
    | some xs => if D.dats 59 xs && e.dat 60 then ofO ((indexOf e xs).map fun n => .int n) μ else .bad
    | none => .bad
  | _, _, _ => .bad

/-! ### subscripts -/
def ixS (μ : Store) (d i : D) : RD := match dicOf μ d with
  | some (t, kvs) => if keyB t i then ofO (kfind kvs i) μ else .bad
  | none => match i with
    | .int i => match d with
      | .str x => if sz x.length then ofO ((atI x.cps.toList i).map fun c => .str ⟨#[c]⟩) μ else .bad
      | d => match seqOf μ d with
        | some xs => ofO (atI xs i) μ
        | none => .bad
    | _ => .bad
def partOf : D → Option (Option Int)
  | .int i => some (some i)
  | _ => none
def cutD (xs : List D) (lo hi : Option Int) : List D := (xs.drop (HT.sIx xs.length 0 lo)).take (HT.sIx xs.length xs.length hi - HT.sIx xs.length 0 lo)
def slS (μ : Store) (d : D) (lo hi : Option Int) : RD := match d with
  | .str x => if sz x.length then .ok (.str (cutS x lo hi)) μ else .bad
  | .tup xs => .ok (.tup (cutD xs lo hi)) μ
  | .wtup xs => if HT.sIx xs.length 0 lo = 0 ∧ HT.sIx xs.length xs.length hi = xs.length then .ok (.wtup xs) μ else .ok (.tup (cutD xs lo hi)) μ
  | d => match lstOf μ d with
    | some xs => .ok (.lst (cutD xs lo hi)) μ
    | none => .bad
def fget : List (Nat × D) → Nat → Option D
  | [], _ => none
  | (k, v) :: r, f => if k = f then some v else fget r f
def fput : List (Nat × D) → Nat → D → List (Nat × D)
  | [], f, w => [(f, w)]
  | (k, v) :: r, f, w => if k = f then (f, w) :: r else (k, v) :: fput r f w
def setIx (μ : Store) (d i v : D) : Option Store := match d with
  | .cell c => match μ[c]? with
    | some (.lst xs) => match i with
      | .int i => (ixN xs.length i).map fun j => μ.set c (.lst (xs.set j v))
      | _ => none
    | some (.dic t kvs) => if keyB t i && sz (kvs.length + 1) then some (μ.set c (.dic t (kput kvs i v))) else none
    | _ => none
  | _ => none
def fokB (fok : List (List Nat)) (c f : Nat) : Bool := (fok.getD c []).contains f
def setFld (fok : List (List Nat)) (μ : Store) (d : D) (f : Nat) (v : D) : Option Store := match d with
  | .cell c => match μ[c]? with
    | some (.ins k fs) => if fokB fok k f && decide (fs.length < 900) then some (μ.set c (.ins k (fput fs f v))) else none
    | _ => none
  | _ => none
def fldS (fok : List (List Nat)) (μ : Store) (o : Option (Nat × List (Nat × D))) (f : Nat) : RD := match o with
    | some (c, fs) => if fokB fok c f then ofO (fget fs f) μ else .bad
    | none => .bad

/-! ### what is walked -/
inductive ITK where
  | seq | rng1 | rng2 | enum | zip | items | rev
  deriving DecidableEq
def inR (i : Int) : Bool := decide (-(2 ^ 62) ≤ i ∧ i < 2 ^ 62)
def enumD : Nat → List D → List D
  | _, [] => []
  | n, x :: r => .tup [.int n, x] :: enumD (n + 1) r
def itemsOf (μ : Store) : ITK → List D → Option (List D)
  | .seq, [d] => match d with
    | .str x => some (signs x)
    | d => match dicOf μ d with
      | some (_, kvs) => some (kvs.map fun (p : D × D) => p.1)
      | none => seqOf μ d
  | .rng1, [.int n] => if inR n then some ((List.range n.toNat).map fun (i : Nat) => D.int (i : Int)) else none
  | .rng2, [.int a, .int b] => if inR a && inR b then some ((List.range (b - a).toNat).map fun (i : Nat) => D.int (a + (i : Int))) else none
  | .enum, [d] => (lstOf μ d).map (enumD 0)
  | .zip, [d, e] => match lstOf μ d, lstOf μ e with
    | some xs, some ys => some ((xs.zip ys).map fun p => .tup [p.1, p.2])
    | _, _ => none
  | .items, [d] => match dicOf μ d with
    | some (false, kvs) => some (kvs.map fun p => .tup [p.1, p.2])
    | _ => none
  | .rev, [d] => (lstOf μ d).map List.reverse
  | _, _ => none

def tagOf (μ : Store) : List D → Bool
  | [d] => (dicOf μ d).isSome
  | _ => false
/-- what is walked is as it was -/
def stayB (μ : Store) (k : ITK) (ds xs : List D) (μ' : Store) : Bool := decide (itemsOf μ' k ds = some xs) && (tagOf μ' ds == tagOf μ ds)
/-! ### text -/
inductive TGT where
  | nm (i : Nat) | tp (ts : TGT) | nil | cons (a b : TGT)
inductive CE where
  | lit (d : D) | var (i : Nat) | glo (j : Nat)
  | bin (o : BinO) (a b : CE) | neg (a : CE) | cmp (o : CmpO) (a b : CE) | chn (o o2 : CmpO) (a b c : CE)
  | and (a b : CE) | or (a b : CE) | not (a : CE) | ite (c a b : CE)
  | isi (a : CE) (ts : List Ty)
  | call (f : Nat) (as : CE) (dv : List D) | make (c : Nat) (fz : Bool) (as : CE) (dv : List D) | meth (o : CE) (m : Nat) (as : CE) | sup (f : Nat) (as : CE)
  | bi (b : BI) (as : CE) | bm (b : BM) (o : CE) (as : CE)
  | fld (o : CE) (f : Nat) | ix (o i : CE) | sl (o lo hi : CE) | npt | prt (a : CE) | stp (o s : CE)
  | tup (as : CE) | lst (fz : Bool) (as : CE) | dnew (t fz : Bool) | disp (t fz : Bool) (as : CE)
  | lc (fz : Bool) (k : ITK) (it : CE) (tg : TGT) (c e : CE) (own : List Nat)
  | anil | acons (a r : CE)
  | unk | inr (neg : Bool) (a n : CE)
inductive CS where
  | skip | seq (a b : CS) | asg (tg : TGT) (e : CE) | sfld (o : CE) (f : Nat) (e : CE) | sidx (o i e : CE)
  | aug (i : Nat) (o : BinO) (e : CE) | augf (ob : CE) (f : Nat) (o : BinO) (e : CE)
  | exp (e : CE) | ret (e : CE) | ite (c : CE) (a b : CS)
  | for (k : ITK) (it : CE) (tg : TGT) (b : CS) (clr : List Nat) | while (c : CE) (b : CS) (clr : List Nat)
  | brk | cnt | raise (c : Nat) (as : CE) | try (b : CS) (cs : List Nat) (nm : Option Nat) (h : CS) (els : CS)
  | frz (i : Nat) | clr (vs : List Nat)

abbrev Env := List (Option D)
inductive Sg where
  | nx | rt (d : D) | bk | ct
abbrev RS := Res (Exn × Env) (Sg × Env)
structure FnT where
  np : Nat
  nv : Nat
  body : CS
structure Prog where
  fns : List FnT
  consts : List D
  /-- each class's methods, by the method's number -/
  mth : List (List (Nat × Nat))
  /-- each class's __init__ -/
  init : List (Option Nat)
  sub : List (List Nat)
  /-- each class's fields -/
  fok : List (List Nat)
  fuel : Nat

def getV (env : Env) (i : Nat) : Option D := match env[i]? with
  | some (some d) => some d
  | _ => none
def wipeE : Env → List Nat → Env
  | e, [] => e
  | e, v :: vs => (wipeE e vs).set v none
def asgT : TGT → D → Env → Option Env
  | .nm i, d, env => some (env.set i (some d))
  | .tp ts, d, env => match d with
    | .tup xs => asgTs ts xs env
    | .wtup xs => asgTs ts xs env
    | _ => none
  | _, _, _ => none
where
  asgTs : TGT → List D → Env → Option Env
    | .nil, [], env => some env
    | .cons (.nm i) r, x :: xs, env => asgTs r xs (env.set i (some x))
    | .cons (.tp ts) r, x :: xs, env => match x with
      | .tup ys => (asgTs ts ys env).bind (asgTs r xs)
      | .wtup ys => (asgTs ts ys env).bind (asgTs r xs)
      | _ => none
    | _, _, _ => none
/-- behind a call: the callee's own cells are gone, where nothing names them -/
def leave (μ : Store) (r : RD) : RD := match r with
  | .ok d μ' => if d.lt μ.length && keeps μ.length μ μ' then .ok d (μ'.take μ.length) else .ok d μ'
  | .ex x μ' => if D.ltf μ.length x.fs && keeps μ.length μ μ' then .ex x (μ'.take μ.length) else .ex x μ'
  | .bad => .bad
/-- what stands in a cell, handed out as frozen -/
def thaw (i : Nat) (μ : Store) : Option (D × Store) := match μ[i]? with
  | some (.lst xs) => some (.lst xs, μ.set i .dead)
  | some (.ins c fs) => some (.ins c fs, μ.set i .dead)
  | _ => none
def thawD (i : Nat) (μ : Store) : Option (D × Store) := match μ[i]? with
  | some (.dic t kvs) => some (.dic t kvs, μ.set i .dead)
  | _ => thaw i μ
/-- a way to a thing: nothing new, nothing changed -/
def pathE : CE → Bool
  | .var _ => true
  | .glo _ => true
  | .lit _ => true
  | .fld o _ => pathE o
  | .ix o i => pathE o && pathE i
  | .acons a r => pathE a && pathE r
  | .anil => true
  | _ => false
/-- the dict's cell that is walked -/
def walkedC (μ : Store) : ITK → List D → Option (Nat × Bool × List (D × D))
  | .seq, [.cell i] => match μ[i]? with
    | some (.dic t kvs) => some (i, t, kvs)
    | _ => none
  | .items, [.cell i] => match μ[i]? with
    | some (.dic t kvs) => some (i, t, kvs)
    | _ => none
  | _, _ => none
abbrev RA := Res Exn (List D)
def tru (r : RD) (f : Bool → Store → RD) : RD := r.bind fun d μ => match truth μ d with
  | some b => f b μ
  | none => .bad

def dispS (t : Bool) : List (D × D) → List D → Option (List (D × D))
  | kvs, [] => some kvs
  | kvs, k :: v :: r => if keyB t k then dispS t (kput kvs k v) r else none
  | _, _ => none
/-- (not) in range(n) -/
def inrS (neg : Bool) (d e : D) (μ : Store) : RD := match d, e with
  | .int i, .int n => .ok (.bl (if neg then !decide (0 ≤ i ∧ i < n) else decide (0 ≤ i ∧ i < n))) μ
  | _, _ => .bad
def methOf (P : Prog) (μ : Store) (m : Nat) (d : D) : Option Nat := match insOf μ d with
  | some (c, _) => (P.mth.getD c []).lookup m
  | none => none
section
variable (P : Prog) (call : Nat → List D → Store → RD)
def makeS (c : Nat) (fz : Bool) (ds : List D) (μ : Store) : RD := match P.init.getD c none with
  | none => .bad
  | some f => match call f (.cell μ.length :: ds) (μ ++ [.ins c []]) with
    | .ok .non μ' => if fz then (match thaw μ.length μ' with
      | some (d, μ2) => leave μ (.ok d μ2)
      | none => .bad) else .ok (.cell μ.length) μ'
    | .ok _ _ => .bad
    | .ex x μ' => leave μ (.ex x μ')
    | .bad => .bad
/-- the turns of a comprehension; i: the cell of what is made -/
def lcL (cond : Env → Store → RD) (elt : Env → Store → RD) (tg : TGT) (stay : Store → Bool) (i : Nat) : List D → Env → Store → Res Exn Unit
  | [], _, μ => if stay μ then .ok () μ else .bad
  | x :: r, env, μ => if stay μ then match asgT tg x env with
      | none => .bad
      | some env' => match (cond env' μ).bind (fun d μ => ofO (truth μ d) μ) with
        | .ok true μ1 => match elt env' μ1 with
          | .ok d μ2 => match bmS μ2 .append (.cell i) [d] with
            | .ok _ μ3 => lcL cond elt tg stay i r env μ3
            | _ => .bad
          | _ => .bad
        | .ok false μ1 => lcL cond elt tg stay i r env μ1
        | _ => .bad
    else .bad
/-- the dict's cell that is walked, locked -/
def lockC (w : Nat × Bool × List (D × D)) (μ : Store) : Store := μ.set w.1 (.ldic w.2.1 w.2.2)
def freeC (w : Nat × Bool × List (D × D)) (μ : Store) : Store := μ.set w.1 (.dic w.2.1 w.2.2)
def unlkE (w : Nat × Bool × List (D × D)) (r : RD) : RD := match r with
  | .ok d μ => .ok d (freeC w μ)
  | _ => .bad
def lcS (cond : Env → Store → RD) (elt : Env → Store → RD) (tg : TGT) (own : List Nat) (k : ITK) (ds : List D) (fz : Bool) (env : Env) (μ : Store) : RD := match itemsOf μ k ds with
  | none => .bad
  | some xs => match lcL cond elt tg (stayB μ k ds xs) μ.length xs (wipeE env own) (μ ++ [.lst []]) with
    | .ok _ μ' => if fz then (match thaw μ.length μ' with
      | some (d, μ2) => leave μ (.ok d μ2)
      | none => .bad) else .ok (.cell μ.length) μ'
    | _ => .bad
mutual
def evE : CE → Env → Store → RD
  | .lit d, _, μ => .ok d μ
  | .var i, env, μ => ofO (getV env i) μ
  | .glo j, _, μ => ofO (P.consts[j]?) μ
  | .bin o a b, env, μ => (evE a env μ).bind fun d μ => (evE b env μ).bind fun e μ => binS μ o d e
  | .neg a, env, μ => (evE a env μ).bind fun d μ => match d with
    | .int i => .ok (.int (-i)) μ
    | _ => .bad
  | .cmp o a b, env, μ => (evE a env μ).bind fun d μ => (evE b env μ).bind fun e μ => ofO ((cmpS μ o d e).map D.bl) μ
  | .chn o o2 a b c, env, μ => (evE a env μ).bind fun d μ => (evE b env μ).bind fun e μ => match cmpS μ o d e with
    | some true => (evE c env μ).bind fun f μ => ofO ((cmpS μ o2 e f).map D.bl) μ
    | some false => .ok (.bl false) μ
    | none => .bad
  | .and a b, env, μ => (evE a env μ).bind fun d μ => match truth μ d with
    | some true => evE b env μ
    | some false => .ok d μ
    | none => .bad
  | .or a b, env, μ => (evE a env μ).bind fun d μ => match truth μ d with
    | some true => .ok d μ
    | some false => evE b env μ
    | none => .bad
  | .not a, env, μ => (evE a env μ).bind fun d μ => ofO ((truth μ d).map fun b => .bl (!b)) μ
  | .ite c a b, env, μ => (evE c env μ).bind fun d μ => match truth μ d with
    | some true => evE a env μ
    | some false => evE b env μ
    | none => .bad
  | .isi a ts, env, μ => (evE a env μ).bind fun d μ => ofO ((ts.foldr (fun t r => match isi P.sub μ d t with
      | some true => some true
      | some false => r
      | none => none) (some false)).map D.bl) μ
  | .call f as dv, env, μ => (evA as env μ).bind fun ds μ => call f (ds ++ dv) μ
  | .make c fz as dv, env, μ => (evA as env μ).bind fun ds μ => makeS P call c fz (ds ++ dv) μ
  | .meth o m as, env, μ => (evE o env μ).bind fun d μ => match methOf P μ m d with
    | some f => (evA as env μ).bind fun ds μ => call f (d :: ds) μ
    | none => .bad
  | .sup f as, env, μ => (evA as env μ).bind fun ds μ => call f ds μ
  | .bi b as, env, μ => (evA as env μ).bind fun ds μ => biS μ b ds
  | .bm b o as, env, μ => (evE o env μ).bind fun d μ => if bmTy μ b d then (evA as env μ).bind fun ds μ => bmS μ b d ds else .bad
  | .fld o f, env, μ => (evE o env μ).bind fun d μ => fldS P.fok μ (insOf μ d) f
  | .ix o i, env, μ => (evE o env μ).bind fun d μ => (evE i env μ).bind fun e μ => ixS μ d e
  | .sl o lo hi, env, μ => (evE o env μ).bind fun d μ => (evP lo env μ).bind fun l μ => (evP hi env μ).bind fun h μ => slS μ d l h
  | .npt, _, _ => .bad
  | .prt _, _, _ => .bad
  | .stp o s, env, μ => (evE o env μ).bind fun d μ => (evE s env μ).bind fun e μ => match lstOf μ d, e with
    | some xs, .int i => if i = 1 then .ok (.lst xs) μ else if i = -1 then .ok (.lst xs.reverse) μ else .bad
    | _, _ => .bad
  | .tup as, env, μ => (evA as env μ).bind fun ds μ => .ok (.tup ds) μ
  | .lst fz as, env, μ => (evA as env μ).bind fun ds μ => put μ fz (.lst ds)
  | .dnew t fz, _, μ => put μ fz (.dic t [])
  | .disp t fz as, env, μ => (evA as env μ).bind fun ds μ => match dispS t [] ds with
    | some kvs => if decide (kvs.length ≤ 15) then put μ fz (.dic t kvs) else .bad
    | none => .bad
  | .lc fz k it tg c e own, env, μ => (evA it env μ).bind fun ds μ => match walkedC μ k ds with
    | none => lcS (evE c) (evE e) tg own k ds fz env μ
    | some w => if pathE it then unlkE w (lcS (evE c) (evE e) tg own k ds fz env (lockC w μ)) else .bad
  | .anil, _, _ => .bad
  | .acons _ _, _, _ => .bad
  | .unk, _, _ => .bad
  | .inr neg a n, env, μ => (evE a env μ).bind fun d μ => (evE n env μ).bind fun e μ => inrS neg d e μ
termination_by structural x => x
def evA : CE → Env → Store → RA
  | .anil, _, μ => .ok [] μ
  | .acons a r, env, μ => (evE a env μ).bind fun d μ => (evA r env μ).bind fun ds μ => .ok (d :: ds) μ
  | _, _, _ => .bad
termination_by structural x => x
def evP : CE → Env → Store → Res Exn (Option Int)
  | .npt, _, μ => .ok none μ
  | .prt a, env, μ => (evE a env μ).bind fun d μ => ofO (partOf d) μ
  | _, _, _ => .bad
termination_by structural x => x
end
def lift (env : Env) (r : RD) (f : D → Store → RS) : RS := match r with
  | .ok d μ => f d μ
  | .ex x μ => .ex (x, env) μ
  | .bad => .bad
@[simp] theorem lift_ok (env : Env) (d : D) (μ : Store) (f : D → Store → RS) : lift env (.ok d μ) f = f d μ := rfl
@[simp] theorem lift_ex (env : Env) (d : Exn) (μ : Store) (f : D → Store → RS) : lift env (.ex d μ) f = .ex (d, env) μ := rfl
@[simp] theorem lift_bad (env : Env) (f : D → Store → RS) : lift env .bad f = .bad := rfl
/-- behind a turn: the slots of the turn forgotten; its cells gone, where nothing names them -/
def turnEnd (n : Nat) (μ0 : Store) (clr : List Nat) (env : Env) (μ : Store) (k : Env → Store → RS) : RS :=
  let env' := wipeE env clr
  if (env'.all fun o => match o with
    | some d => d.lt n
    | none => true) && keeps n μ0 μ then k env' (μ.take n) else k env' μ
def forL (body : Env → Store → RS) (tg : TGT) (stay : Store → Bool) (clr : List Nat) : List D → Env → Store → RS
  | [], env, μ => if stay μ then .ok (.nx, env) μ else .bad
  | x :: r, env, μ => if stay μ then match asgT tg x env with
      | none => .bad
      | some env' => match body env' μ with
        | .ok (.nx, env2) μ2 => turnEnd μ.length μ clr env2 μ2 (forL body tg stay clr r)
        | .ok (.ct, env2) μ2 => turnEnd μ.length μ clr env2 μ2 (forL body tg stay clr r)
        | .ok (.bk, env2) μ2 => .ok (.nx, env2) μ2
        | .ok (.rt d, env2) μ2 => .ok (.rt d, env2) μ2
        | .ex x μ2 => .ex x μ2
        | .bad => .bad
    else .bad
def forS (body : Env → Store → RS) (tg : TGT) (k : ITK) (ds : List D) (clr : List Nat) (env : Env) (μ : Store) : RS := match itemsOf μ k ds with
  | some xs => forL body tg (stayB μ k ds xs) clr xs env μ
  | none => .bad
def unlkS (w : Nat × Bool × List (D × D)) (r : RS) : RS := match r with
  | .ok s μ => .ok s (freeC w μ)
  | _ => .bad
def whileL (cond : Env → Store → RD) (body : Env → Store → RS) (clr : List Nat) : Nat → Env → Store → RS
  | 0, _, _ => .bad
  | n + 1, env, μ => lift env (cond env μ) fun d μ1 => match truth μ1 d with
    | none => .bad
    | some false => .ok (.nx, env) μ1
    | some true => match body env μ1 with
      | .ok (.nx, env2) μ2 => turnEnd μ.length μ clr env2 μ2 (whileL cond body clr n)
      | .ok (.ct, env2) μ2 => turnEnd μ.length μ clr env2 μ2 (whileL cond body clr n)
      | .ok (.bk, env2) μ2 => .ok (.nx, env2) μ2
      | .ok (.rt d, env2) μ2 => .ok (.rt d, env2) μ2
      | .ex x μ2 => .ex x μ2
      | .bad => .bad
def evS : CS → Env → Store → RS
  | .skip, env, μ => .ok (.nx, env) μ
  | .seq a b, env, μ => match evS a env μ with
    | .ok (.nx, env') μ' => evS b env' μ'
    | .ok (.rt d, env') μ' => .ok (.rt d, env') μ'
    | .ok (.bk, env') μ' => .ok (.bk, env') μ'
    | .ok (.ct, env') μ' => .ok (.ct, env') μ'
    | .ex x μ' => .ex x μ'
    | .bad => .bad
  | .asg tg e, env, μ => lift env (evE P call e env μ) fun d μ => ofO ((asgT tg d env).map fun env' => (.nx, env')) μ
  | .sfld o f e, env, μ => lift env (evE P call e env μ) fun v μ => lift env (evE P call o env μ) fun d μ => match setFld P.fok μ d f v with
    | some μ' => .ok (.nx, env) μ'
    | none => .bad
  | .sidx o i e, env, μ => lift env (evE P call e env μ) fun v μ => lift env (evE P call o env μ) fun d μ => lift env (evE P call i env μ) fun k μ => match setIx μ d k v with
    | some μ' => .ok (.nx, env) μ'
    | none => .bad
  | .aug i o e, env, μ => match getV env i with
    | none => .bad
    | some x => lift env (evE P call e env μ) fun y μ => match x, y with
      | .int _, .int _ => lift env (binS μ o x y) fun z μ => .ok (.nx, env.set i (some z)) μ
      | _, _ => .bad
  | .augf ob f o e, env, μ => lift env (evE P call ob env μ) fun d μ => match insOf μ d with
    | none => .bad
    | some (_, fs) => match fget fs f with
      | none => .bad
      | some x => lift env (evE P call e env μ) fun y μ => match x, y with
        | .int _, .int _ => lift env (binS μ o x y) fun z μ => match setFld P.fok μ d f z with
          | some μ' => .ok (.nx, env) μ'
          | none => .bad
        | _, _ => .bad
  | .exp e, env, μ => lift env (evE P call e env μ) fun _ μ => .ok (.nx, env) μ
  | .ret e, env, μ => lift env (evE P call e env μ) fun d μ => .ok (.rt d, env) μ
  | .ite c a b, env, μ => lift env (evE P call c env μ) fun d μ => match truth μ d with
    | some true => evS a env μ
    | some false => evS b env μ
    | none => .bad
  | .for k it tg b clr, env, μ => match evA P call it env μ with
    | .ok ds μ => match walkedC μ k ds with
      | none => forS (evS b) tg k ds clr env μ
      | some w => if pathE it then unlkS w (forS (evS b) tg k ds clr env (lockC w μ)) else .bad
    | .ex x μ => .ex (x, env) μ
    | .bad => .bad
  | .while c b clr, env, μ => whileL (evE P call c) (evS b) clr P.fuel env μ
  | .brk, env, μ => .ok (.bk, env) μ
  | .cnt, env, μ => .ok (.ct, env) μ
  | .raise _ _, _, _ => .bad
  | .try b cs nm h els, env, μ => match evS b env μ with
    | .ok (.nx, env') μ' => evS els env' μ'
    | .ok (.rt d, env') μ' => .ok (.rt d, env') μ'
    | .ok (.bk, env') μ' => .ok (.bk, env') μ'
    | .ok (.ct, env') μ' => .ok (.ct, env') μ'
    | .ex _ _ => .bad
    | .bad => .bad
  | .frz i, env, μ => match getV env i with
    | some (.cell j) => match thawD j μ with
      | some (d, μ') => .ok (.nx, env.set i (some d)) μ'
      | none => .bad
    | some _ => .ok (.nx, env) μ
    | none => .bad
  | .clr vs, env, μ => .ok (.nx, wipeE env vs) μ
end
/-- how a def's body ends -/
def fin (r : RS) : RD := match r with
  | .ok (.nx, _) μ' => .ok .non μ'
  | .ok (.rt d, _) μ' => .ok d μ'
  | .ok (.bk, _) _ => .bad
  | .ok (.ct, _) _ => .bad
  | .ex (x, _) μ' => .ex x μ'
  | .bad => .bad
@[simp] theorem fin_nx (e : Env) (μ : Store) : fin (.ok (.nx, e) μ) = .ok .non μ := rfl
@[simp] theorem fin_rt (d : D) (e : Env) (μ : Store) : fin (.ok (.rt d, e) μ) = .ok d μ := rfl
@[simp] theorem fin_ex (x : Exn) (e : Env) (μ : Store) : fin (.ex (x, e) μ) = .ex x μ := rfl
/-- a def called: n calls deep at most -/
def run (P : Prog) : Nat → Nat → List D → Store → RD
  | 0, _, _, _ => .bad
  | n + 1, f, ds, μ => match P.fns[f]? with
    | none => .bad
    | some F => if F.np = ds.length then leave μ (fin (evS P (run P n) F.body (ds.map some ++ List.replicate (F.nv - F.np) none) μ)) else .bad
theorem run_def {P : Prog} {n f : Nat} {ds : List D} {μ : Store} {F : FnT} (h : P.fns[f]? = some F) (hl : F.np = ds.length) : run P (n + 1) f ds μ = leave μ (fin (evS P (run P n) F.body (ds.map some ++ List.replicate (F.nv - F.np) none) μ)) := by
  unfold run
  rw [h]
  exact if_pos hl
/-! ### for proofs -/
mutual
theorem D.lt_mono {n m : Nat} (h : n ≤ m) : ∀ d : D, d.lt n = true → d.lt m = true
  | .non, _ => rfl
  | .bl _, _ => rfl
  | .int _, _ => rfl
  | .str _, _ => rfl
  | .tup xs, e => D.lts_mono h xs e
  | .lst xs, e => D.lts_mono h xs e
  | .wtup xs, e => D.lts_mono h xs e
  | .dic _ xs, e => D.ltp_mono h xs e
  | .ins _ xs, e => D.ltf_mono h xs e
  | .cell i, e => by
    simp only [D.lt, decide_eq_true_eq] at e ⊢
    omega
theorem D.lts_mono {n m : Nat} (h : n ≤ m) : ∀ d : List D, D.lts n d = true → D.lts m d = true
  | [], _ => rfl
  | x :: r, e => by
    simp only [D.lts, Bool.and_eq_true] at e ⊢
    exact ⟨D.lt_mono h x e.1, D.lts_mono h r e.2⟩
theorem D.ltp_mono {n m : Nat} (h : n ≤ m) : ∀ d : List (D × D), D.ltp n d = true → D.ltp m d = true
  | [], _ => rfl
  | x :: r, e => by
    simp only [D.ltp, Bool.and_eq_true] at e ⊢
    exact ⟨D.ltq_mono h x e.1, D.ltp_mono h r e.2⟩
theorem D.ltq_mono {n m : Nat} (h : n ≤ m) : ∀ d : D × D, D.ltq n d = true → D.ltq m d = true
  | (k, v), e => by
    simp only [D.ltq, Bool.and_eq_true] at e ⊢
    exact ⟨D.lt_mono h k e.1, D.lt_mono h v e.2⟩
theorem D.ltf_mono {n m : Nat} (h : n ≤ m) : ∀ d : List (Nat × D), D.ltf n d = true → D.ltf m d = true
  | [], _ => rfl
  | x :: r, e => by
    simp only [D.ltf, Bool.and_eq_true] at e ⊢
    exact ⟨D.ltg_mono h x e.1, D.ltf_mono h r e.2⟩
theorem D.ltg_mono {n m : Nat} (h : n ≤ m) : ∀ d : Nat × D, D.ltg n d = true → D.ltg m d = true
  | (k, v), e => by
    simp only [D.ltg] at e ⊢
    exact D.lt_mono h v e
end
theorem keeps_refl (n : Nat) : ∀ μ t : Store, keeps n μ (μ ++ t) = true
  | [], _ => rfl
  | c :: r, t => by
    show ((decide (c = c) || c.lt n) && keeps n r (r ++ t)) = true
    rw [keeps_refl n r t]
    simp
@[simp] theorem keeps_self (n : Nat) (μ : Store) : keeps n μ μ = true := by
  have h := keeps_refl n μ []
  rwa [List.append_nil] at h
@[simp] theorem keeps_app (n : Nat) (μ t : Store) : keeps n μ (μ ++ t) = true := keeps_refl n μ t
theorem leave_ok {μ t : Store} {d : D} (h : d.lt μ.length = true) : leave μ (.ok d (μ ++ t)) = .ok d μ := by
  show (if d.lt μ.length && keeps μ.length μ (μ ++ t) then _ else _) = _
  rw [h, keeps_refl]
  simp
theorem leave_self {μ : Store} {d : D} (h : d.lt μ.length = true) : leave μ (.ok d μ) = .ok d μ := by
  have e := leave_ok (t := []) h
  rwa [List.append_nil] at e
@[simp] theorem lt_non (n : Nat) : D.non.lt n = true := (rfl)
@[simp] theorem lt_bl (n : Nat) (b : Bool) : (D.bl b).lt n = true := (rfl)
@[simp] theorem lt_int (n : Nat) (b : Int) : (D.int b).lt n = true := (rfl)
@[simp] theorem lt_str (n : Nat) (b : Str) : (D.str b).lt n = true := (rfl)
@[simp] theorem lt_tup (n : Nat) (b : List D) : (D.tup b).lt n = D.lts n b := (rfl)
@[simp] theorem lt_lst (n : Nat) (b : List D) : (D.lst b).lt n = D.lts n b := (rfl)
@[simp] theorem lt_dic (n : Nat) (t : Bool) (b : List (D × D)) : (D.dic t b).lt n = D.ltp n b := (rfl)
@[simp] theorem lt_ins (n : Nat) (t : Nat) (b : List (Nat × D)) : (D.ins t b).lt n = D.ltf n b := (rfl)
@[simp] theorem lt_cell (n i : Nat) : (D.cell i).lt n = decide (i < n) := (rfl)
@[simp] theorem lts_nil (n : Nat) : D.lts n [] = true := (rfl)
@[simp] theorem lts_cons (n : Nat) (x : D) (r : List D) : D.lts n (x :: r) = (x.lt n && D.lts n r) := (rfl)
@[simp] theorem lts_append (n : Nat) : ∀ a b : List D, D.lts n (a ++ b) = (D.lts n a && D.lts n b)
  | [], b => by simp
  | x :: a, b => by simp [lts_append n a b, Bool.and_assoc]
theorem lts_map {α : Type} (n : Nat) (f : α → D) : ∀ l : List α, (∀ x ∈ l, (f x).lt n = true) → D.lts n (l.map f) = true
  | [], _ => rfl
  | x :: r, h => by
    simp only [List.map_cons, lts_cons, Bool.and_eq_true]
    exact ⟨h x List.mem_cons_self, lts_map n f r fun y hy => h y (List.mem_cons_of_mem _ hy)⟩
@[simp] theorem lts_int (n : Nat) (l : List Int) : D.lts n (l.map D.int) = true := lts_map n D.int l fun _ _ => rfl
@[simp] theorem lts_str (n : Nat) (l : List Str) : D.lts n (l.map D.str) = true := lts_map n D.str l fun _ _ => rfl
@[simp] theorem ltp_nil (n : Nat) : D.ltp n [] = true := (rfl)
@[simp] theorem ltp_cons (n : Nat) (x : D × D) (r : List (D × D)) : D.ltp n (x :: r) = (x.1.lt n && x.2.lt n && D.ltp n r) := by cases x; rfl
@[simp] theorem ltf_nil (n : Nat) : D.ltf n [] = true := (rfl)
@[simp] theorem ltf_cons (n : Nat) (x : Nat × D) (r : List (Nat × D)) : D.ltf n (x :: r) = (x.2.lt n && D.ltf n r) := by cases x; rfl
end Co

set_option linter.all false
set_option maxRecDepth 100000
/-! Co3: the evaluator's equations for proofs: first-order continuations, so that simp never goes under a binder. -/
namespace Co
open PySem L2
section
variable (P : Prog) (call : Nat → List D → Store → RD)
def kBin2 (o : BinO) (d : D) (r : RD) : RD := r.bind fun e μ => binS μ o d e
def kBin (o : BinO) (b : CE) (env : Env) (r : RD) : RD := r.bind fun d μ => kBin2 o d (evE P call b env μ)
def kNeg (r : RD) : RD := r.bind fun d μ => match d with
    | .int i => .ok (.int (-i)) μ
    | _ => .bad
def kCmp2 (o : CmpO) (d : D) (r : RD) : RD := r.bind fun e μ => ofO ((cmpS μ o d e).map D.bl) μ
def kCmp (o : CmpO) (b : CE) (env : Env) (r : RD) : RD := r.bind fun d μ => kCmp2 o d (evE P call b env μ)
def kChn3 (b : Option Bool) (o2 : CmpO) (e : D) (c : CE) (env : Env) (μ : Store) : RD := match b with
    | some true => (evE P call c env μ).bind fun f μ => ofO ((cmpS μ o2 e f).map D.bl) μ
    | some false => .ok (.bl false) μ
    | none => .bad
def kChn2 (o o2 : CmpO) (d : D) (c : CE) (env : Env) (r : RD) : RD := r.bind fun e μ => kChn3 P call (cmpS μ o d e) o2 e c env μ
def kChn (o o2 : CmpO) (b c : CE) (env : Env) (r : RD) : RD := r.bind fun d μ => kChn2 P call o o2 d c env (evE P call b env μ)
def kAnd2 (d : D) (c : Option Bool) (b : CE) (env : Env) (μ : Store) : RD := match c with
    | some true => evE P call b env μ
    | some false => .ok d μ
    | none => .bad
def kAnd (b : CE) (env : Env) (r : RD) : RD := r.bind fun d μ => kAnd2 P call d (truth μ d) b env μ
def kOr2 (d : D) (c : Option Bool) (b : CE) (env : Env) (μ : Store) : RD := match c with
    | some true => .ok d μ
    | some false => evE P call b env μ
    | none => .bad
def kOr (b : CE) (env : Env) (r : RD) : RD := r.bind fun d μ => kOr2 P call d (truth μ d) b env μ
def kNot (r : RD) : RD := r.bind fun d μ => ofO ((truth μ d).map fun b => .bl (!b)) μ
def kIteE2 (c : Option Bool) (a b : CE) (env : Env) (μ : Store) : RD := match c with
    | some true => evE P call a env μ
    | some false => evE P call b env μ
    | none => .bad
def kIteE (a b : CE) (env : Env) (r : RD) : RD := r.bind fun d μ => kIteE2 P call (truth μ d) a b env μ
def isiS (sub : List (List Nat)) (μ : Store) (d : D) (ts : List Ty) : Option Bool := ts.foldr (fun t r => match isi sub μ d t with
      | some true => some true
      | some false => r
      | none => none) (some false)
def kIsi (ts : List Ty) (r : RD) : RD := r.bind fun d μ => ofO ((isiS P.sub μ d ts).map D.bl) μ
def kCall (f : Nat) (dv : List D) (r : RA) : RD := r.bind fun ds μ => call f (ds ++ dv) μ
def kMake (c : Nat) (fz : Bool) (dv : List D) (r : RA) : RD := r.bind fun ds μ => makeS P call c fz (ds ++ dv) μ
def kMeth3 (f : Nat) (d : D) (r : RA) : RD := r.bind fun ds μ => call f (d :: ds) μ
def kMeth2 (o : Option Nat) (d : D) (as : CE) (env : Env) (μ : Store) : RD := match o with
    | some f => (evA P call as env μ).bind fun ds μ => call f (d :: ds) μ
    | none => .bad
def kMeth (m : Nat) (as : CE) (env : Env) (r : RD) : RD := r.bind fun d μ => kMeth2 P call (methOf P μ m d) d as env μ
def kSup (f : Nat) (r : RA) : RD := r.bind fun ds μ => call f ds μ
def kBi (b : BI) (r : RA) : RD := r.bind fun ds μ => biS μ b ds
def kBm3 (b : BM) (d : D) (r : RA) : RD := r.bind fun ds μ => bmS μ b d ds
def kBm2 (t : Bool) (b : BM) (d : D) (as : CE) (env : Env) (μ : Store) : RD := if t then (evA P call as env μ).bind fun ds μ => bmS μ b d ds else .bad
def kBm (b : BM) (as : CE) (env : Env) (r : RD) : RD := r.bind fun d μ => kBm2 P call (bmTy μ b d) b d as env μ
def kFld (f : Nat) (r : RD) : RD := r.bind fun d μ => fldS P.fok μ (insOf μ d) f
def kIx2 (d : D) (r : RD) : RD := r.bind fun e μ => ixS μ d e
def kIx (i : CE) (env : Env) (r : RD) : RD := r.bind fun d μ => kIx2 d (evE P call i env μ)
def kPrt (r : RD) : Res Exn (Option Int) := r.bind fun d μ => ofO (partOf d) μ
def kSl3 (d : D) (l : Option Int) (r : Res Exn (Option Int)) : RD := r.bind fun h μ => slS μ d l h
def kSl2 (d : D) (hi : CE) (env : Env) (r : Res Exn (Option Int)) : RD := r.bind fun l μ => kSl3 d l (evP P call hi env μ)
def kSl (lo hi : CE) (env : Env) (r : RD) : RD := r.bind fun d μ => kSl2 P call d hi env (evP P call lo env μ)
def stpS (μ : Store) (o : Option (List D)) (e : D) : RD := match o, e with
    | some xs, .int i => if i = 1 then .ok (.lst xs) μ else if i = -1 then .ok (.lst xs.reverse) μ else .bad
    | _, _ => .bad
def kStp2 (d : D) (r : RD) : RD := r.bind fun e μ => stpS μ (lstOf μ d) e
def kStp (s : CE) (env : Env) (r : RD) : RD := r.bind fun d μ => kStp2 d (evE P call s env μ)
def kTup (r : RA) : RD := r.bind fun ds μ => .ok (.tup ds) μ
def kLst (fz : Bool) (r : RA) : RD := r.bind fun ds μ => put μ fz (.lst ds)
def dispP (t fz : Bool) (μ : Store) (o : Option (List (D × D))) : RD := match o with
    | some kvs => if decide (kvs.length ≤ 15) then put μ fz (.dic t kvs) else .bad
    | none => .bad
def kDisp (t fz : Bool) (r : RA) : RD := r.bind fun ds μ => dispP t fz μ (dispS t [] ds)
def kLc1 (ok : Bool) (fz : Bool) (k : ITK) (ds : List D) (w : Option (Nat × Bool × List (D × D))) (tg : TGT) (c e : CE) (own : List Nat) (env : Env) (μ : Store) : RD := match w with
    | none => lcS (evE P call c) (evE P call e) tg own k ds fz env μ
    | some w => if ok then unlkE w (lcS (evE P call c) (evE P call e) tg own k ds fz env (lockC w μ)) else .bad
def kLc (ok fz : Bool) (k : ITK) (tg : TGT) (c e : CE) (own : List Nat) (env : Env) (r : RA) : RD := r.bind fun ds μ => kLc1 P call ok fz k ds (walkedC μ k ds) tg c e own env μ
def kInr2 (neg : Bool) (d : D) (r : RD) : RD := r.bind fun e μ => inrS neg d e μ
def kInr (neg : Bool) (n : CE) (env : Env) (r : RD) : RD := r.bind fun d μ => kInr2 neg d (evE P call n env μ)
def kCons2 (d : D) (r : RA) : RA := r.bind fun ds μ => .ok (d :: ds) μ
def kCons (r : CE) (env : Env) (x : RD) : RA := x.bind fun d μ => kCons2 d (evA P call r env μ)

@[simp] theorem evE_lit (d : D) (env : Env) (μ : Store) : evE P call (.lit d) env μ = .ok d μ := (rfl)
@[simp] theorem evE_var (i : Nat) (env : Env) (μ : Store) : evE P call (.var i) env μ = ofO (getV env i) μ := (rfl)
@[simp] theorem evE_glo (i : Nat) (env : Env) (μ : Store) : evE P call (.glo i) env μ = ofO (P.consts[i]?) μ := (rfl)
@[simp] theorem evE_bin (o : BinO) (a b : CE) (env : Env) (μ : Store) : evE P call (.bin o a b) env μ = kBin P call o b env (evE P call a env μ) := (rfl)
@[simp] theorem evE_neg (a : CE) (env : Env) (μ : Store) : evE P call (.neg a) env μ = kNeg (evE P call a env μ) := (rfl)
@[simp] theorem evE_cmp (o : CmpO) (a b : CE) (env : Env) (μ : Store) : evE P call (.cmp o a b) env μ = kCmp P call o b env (evE P call a env μ) := (rfl)
@[simp] theorem evE_chn (o o2 : CmpO) (a b c : CE) (env : Env) (μ : Store) : evE P call (.chn o o2 a b c) env μ = kChn P call o o2 b c env (evE P call a env μ) := (rfl)
@[simp] theorem evE_and (a b : CE) (env : Env) (μ : Store) : evE P call (.and a b) env μ = kAnd P call b env (evE P call a env μ) := (rfl)
@[simp] theorem evE_or (a b : CE) (env : Env) (μ : Store) : evE P call (.or a b) env μ = kOr P call b env (evE P call a env μ) := (rfl)
@[simp] theorem evE_not (a : CE) (env : Env) (μ : Store) : evE P call (.not a) env μ = kNot (evE P call a env μ) := (rfl)
@[simp] theorem evE_ite (c a b : CE) (env : Env) (μ : Store) : evE P call (.ite c a b) env μ = kIteE P call a b env (evE P call c env μ) := (rfl)
@[simp] theorem evE_isi (a : CE) (ts : List Ty) (env : Env) (μ : Store) : evE P call (.isi a ts) env μ = kIsi P ts (evE P call a env μ) := (rfl)
@[simp] theorem evE_call (f : Nat) (a : CE) (dv : List D) (env : Env) (μ : Store) : evE P call (.call f a dv) env μ = kCall call f dv (evA P call a env μ) := (rfl)
@[simp] theorem evE_make (c : Nat) (fz : Bool) (a : CE) (dv : List D) (env : Env) (μ : Store) : evE P call (.make c fz a dv) env μ = kMake P call c fz dv (evA P call a env μ) := (rfl)
@[simp] theorem evE_meth (o : CE) (m : Nat) (a : CE) (env : Env) (μ : Store) : evE P call (.meth o m a) env μ = kMeth P call m a env (evE P call o env μ) := (rfl)
@[simp] theorem evE_sup (f : Nat) (a : CE) (env : Env) (μ : Store) : evE P call (.sup f a) env μ = kSup call f (evA P call a env μ) := (rfl)
@[simp] theorem evE_bi (b : BI) (a : CE) (env : Env) (μ : Store) : evE P call (.bi b a) env μ = kBi b (evA P call a env μ) := (rfl)
@[simp] theorem evE_bm (b : BM) (o a : CE) (env : Env) (μ : Store) : evE P call (.bm b o a) env μ = kBm P call b a env (evE P call o env μ) := (rfl)
@[simp] theorem evE_fld (o : CE) (f : Nat) (env : Env) (μ : Store) : evE P call (.fld o f) env μ = kFld P f (evE P call o env μ) := (rfl)
@[simp] theorem evE_ix (o i : CE) (env : Env) (μ : Store) : evE P call (.ix o i) env μ = kIx P call i env (evE P call o env μ) := (rfl)
@[simp] theorem evE_sl (o l h : CE) (env : Env) (μ : Store) : evE P call (.sl o l h) env μ = kSl P call l h env (evE P call o env μ) := (rfl)
@[simp] theorem evE_stp (o s : CE) (env : Env) (μ : Store) : evE P call (.stp o s) env μ = kStp P call s env (evE P call o env μ) := (rfl)
@[simp] theorem evE_tup (a : CE) (env : Env) (μ : Store) : evE P call (.tup a) env μ = kTup (evA P call a env μ) := (rfl)
@[simp] theorem evE_lst (fz : Bool) (a : CE) (env : Env) (μ : Store) : evE P call (.lst fz a) env μ = kLst fz (evA P call a env μ) := (rfl)
@[simp] theorem evE_dnew (t fz : Bool) (env : Env) (μ : Store) : evE P call (.dnew t fz) env μ = put μ fz (.dic t []) := (rfl)
@[simp] theorem evE_disp (t fz : Bool) (a : CE) (env : Env) (μ : Store) : evE P call (.disp t fz a) env μ = kDisp t fz (evA P call a env μ) := (rfl)
@[simp] theorem evE_lc (fz : Bool) (k : ITK) (it : CE) (tg : TGT) (c e : CE) (own : List Nat) (env : Env) (μ : Store) : evE P call (.lc fz k it tg c e own) env μ = kLc P call (pathE it) fz k tg c e own env (evA P call it env μ) := (rfl)
@[simp] theorem evE_inr (neg : Bool) (a n : CE) (env : Env) (μ : Store) : evE P call (.inr neg a n) env μ = kInr P call neg n env (evE P call a env μ) := (rfl)
@[simp] theorem evP_npt (env : Env) (μ : Store) : evP P call .npt env μ = .ok none μ := (rfl)
@[simp] theorem evP_prt (a : CE) (env : Env) (μ : Store) : evP P call (.prt a) env μ = kPrt (evE P call a env μ) := (rfl)
@[simp] theorem evA_nil (env : Env) (μ : Store) : evA P call .anil env μ = .ok [] μ := (rfl)
@[simp] theorem evA_cons (a r : CE) (env : Env) (μ : Store) : evA P call (.acons a r) env μ = kCons P call r env (evE P call a env μ) := (rfl)

variable (d e l h : D) (ds : List D) (μ : Store) (x : Exn)
@[simp] theorem kBin_ok (o : BinO) (b : CE) (env : Env) : kBin P call o b env (.ok d μ) = kBin2 o d (evE P call b env μ) := (rfl)
@[simp] theorem kBin2_ok (o : BinO) : kBin2 o d (.ok e μ) = binS μ o d e := (rfl)
@[simp] theorem kNeg_ok (i : Int) : kNeg (.ok (.int i) μ) = .ok (.int (-i)) μ := (rfl)
@[simp] theorem kCmp_ok (o : CmpO) (b : CE) (env : Env) : kCmp P call o b env (.ok d μ) = kCmp2 o d (evE P call b env μ) := (rfl)
@[simp] theorem kCmp2_ok (o : CmpO) : kCmp2 o d (.ok e μ) = ofO ((cmpS μ o d e).map D.bl) μ := (rfl)
@[simp] theorem kChn_ok (o o2 : CmpO) (b c : CE) (env : Env) : kChn P call o o2 b c env (.ok d μ) = kChn2 P call o o2 d c env (evE P call b env μ) := (rfl)
@[simp] theorem kChn2_ok (o o2 : CmpO) (c : CE) (env : Env) : kChn2 P call o o2 d c env (.ok e μ) = kChn3 P call (cmpS μ o d e) o2 e c env μ := (rfl)
@[simp] theorem kChn3_t (o2 : CmpO) (c : CE) (env : Env) : kChn3 P call (some true) o2 e c env μ = kCmp2 o2 e (evE P call c env μ) := (rfl)
@[simp] theorem kChn3_f (o2 : CmpO) (c : CE) (env : Env) : kChn3 P call (some false) o2 e c env μ = .ok (.bl false) μ := (rfl)
@[simp] theorem kAnd_ok (b : CE) (env : Env) : kAnd P call b env (.ok d μ) = kAnd2 P call d (truth μ d) b env μ := (rfl)
@[simp] theorem kAnd2_t (b : CE) (env : Env) : kAnd2 P call d (some true) b env μ = evE P call b env μ := (rfl)
@[simp] theorem kAnd2_f (b : CE) (env : Env) : kAnd2 P call d (some false) b env μ = .ok d μ := (rfl)
@[simp] theorem kOr_ok (b : CE) (env : Env) : kOr P call b env (.ok d μ) = kOr2 P call d (truth μ d) b env μ := (rfl)
@[simp] theorem kOr2_t (b : CE) (env : Env) : kOr2 P call d (some true) b env μ = .ok d μ := (rfl)
@[simp] theorem kOr2_f (b : CE) (env : Env) : kOr2 P call d (some false) b env μ = evE P call b env μ := (rfl)
@[simp] theorem kNot_ok : kNot (.ok d μ) = ofO ((truth μ d).map fun b => .bl (!b)) μ := (rfl)
@[simp] theorem kIteE_ok (a b : CE) (env : Env) : kIteE P call a b env (.ok d μ) = kIteE2 P call (truth μ d) a b env μ := (rfl)
@[simp] theorem kIteE2_t (a b : CE) (env : Env) : kIteE2 P call (some true) a b env μ = evE P call a env μ := (rfl)
@[simp] theorem kIteE2_f (a b : CE) (env : Env) : kIteE2 P call (some false) a b env μ = evE P call b env μ := (rfl)
@[simp] theorem kIsi_ok (ts : List Ty) : kIsi P ts (.ok d μ) = ofO ((isiS P.sub μ d ts).map D.bl) μ := (rfl)
@[simp] theorem kCall_ok (f : Nat) (dv : List D) : kCall call f dv (.ok ds μ) = call f (ds ++ dv) μ := (rfl)
@[simp] theorem kMake_ok (c : Nat) (fz : Bool) (dv : List D) : kMake P call c fz dv (.ok ds μ) = makeS P call c fz (ds ++ dv) μ := (rfl)
@[simp] theorem kMeth_ok (m : Nat) (a : CE) (env : Env) : kMeth P call m a env (.ok d μ) = kMeth2 P call (methOf P μ m d) d a env μ := (rfl)
@[simp] theorem kMeth2_some (f : Nat) (a : CE) (env : Env) : kMeth2 P call (some f) d a env μ = kMeth3 call f d (evA P call a env μ) := (rfl)
@[simp] theorem kMeth3_ok (f : Nat) : kMeth3 call f d (.ok ds μ) = call f (d :: ds) μ := (rfl)
theorem methOf_ins (m c : Nat) (fs : List (Nat × D)) : methOf P μ m (.ins c fs) = (P.mth.getD c []).lookup m := rfl
@[simp] theorem kSup_ok (f : Nat) : kSup call f (.ok ds μ) = call f ds μ := (rfl)
@[simp] theorem kBi_ok (b : BI) : kBi b (.ok ds μ) = biS μ b ds := (rfl)
@[simp] theorem kBm_ok (b : BM) (a : CE) (env : Env) : kBm P call b a env (.ok d μ) = kBm2 P call (bmTy μ b d) b d a env μ := (rfl)
@[simp] theorem kBm2_t (b : BM) (a : CE) (env : Env) : kBm2 P call true b d a env μ = kBm3 b d (evA P call a env μ) := (rfl)
@[simp] theorem kBm3_ok (b : BM) : kBm3 b d (.ok ds μ) = bmS μ b d ds := (rfl)
@[simp] theorem kFld_ok (f : Nat) : kFld P f (.ok d μ) = fldS P.fok μ (insOf μ d) f := (rfl)
theorem fldS_some {fok : List (List Nat)} {c f : Nat} (h : fokB fok c f = true) (fs : List (Nat × D)) : fldS fok μ (some (c, fs)) f = ofO (fget fs f) μ := if_pos h
@[simp] theorem kIx_ok (i : CE) (env : Env) : kIx P call i env (.ok d μ) = kIx2 d (evE P call i env μ) := (rfl)
@[simp] theorem kIx2_ok : kIx2 d (.ok e μ) = ixS μ d e := (rfl)
@[simp] theorem kSl_ok (lo hi : CE) (env : Env) : kSl P call lo hi env (.ok d μ) = kSl2 P call d hi env (evP P call lo env μ) := (rfl)
@[simp] theorem kSl2_ok (hi : CE) (env : Env) (l : Option Int) : kSl2 P call d hi env (.ok l μ) = kSl3 d l (evP P call hi env μ) := (rfl)
@[simp] theorem kSl3_ok (l h : Option Int) : kSl3 d l (.ok h μ) = slS μ d l h := (rfl)
@[simp] theorem kPrt_ok (i : Int) : kPrt (.ok (.int i) μ) = .ok (some i) μ := (rfl)
@[simp] theorem kStp_ok (s : CE) (env : Env) : kStp P call s env (.ok d μ) = kStp2 d (evE P call s env μ) := (rfl)
@[simp] theorem kStp2_ok : kStp2 d (.ok e μ) = stpS μ (lstOf μ d) e := (rfl)
@[simp] theorem kTup_ok : kTup (.ok ds μ) = .ok (.tup ds) μ := (rfl)
@[simp] theorem kLst_ok (fz : Bool) : kLst fz (.ok ds μ) = put μ fz (.lst ds) := (rfl)
@[simp] theorem kDisp_ok (t fz : Bool) : kDisp t fz (.ok ds μ) = dispP t fz μ (dispS t [] ds) := (rfl)
@[simp] theorem kLc_ok (ok fz : Bool) (k : ITK) (tg : TGT) (c e : CE) (own : List Nat) (env : Env) : kLc P call ok fz k tg c e own env (.ok ds μ) = kLc1 P call ok fz k ds (walkedC μ k ds) tg c e own env μ := (rfl)
@[simp] theorem kLc1_none (ok fz : Bool) (k : ITK) (tg : TGT) (c e : CE) (own : List Nat) (env : Env) : kLc1 P call ok fz k ds none tg c e own env μ = lcS (evE P call c) (evE P call e) tg own k ds fz env μ := (rfl)
@[simp] theorem kInr_ok (neg : Bool) (n : CE) (env : Env) : kInr P call neg n env (.ok d μ) = kInr2 neg d (evE P call n env μ) := (rfl)
@[simp] theorem kInr2_ok (neg : Bool) (i n : Int) : kInr2 neg (.int i) (.ok (.int n) μ) = .ok (.bl (if neg then !decide (0 ≤ i ∧ i < n) else decide (0 ≤ i ∧ i < n))) μ := (rfl)
@[simp] theorem kCons_ok (r : CE) (env : Env) : kCons P call r env (.ok d μ) = kCons2 d (evA P call r env μ) := (rfl)
@[simp] theorem kCons2_ok : kCons2 d (.ok ds μ) = .ok (d :: ds) μ := (rfl)

/-! ### statements -/
def kSeq (b : CS) (r : RS) : RS := match r with
    | .ok (.nx, env') μ' => evS P call b env' μ'
    | .ok (.rt d, env') μ' => .ok (.rt d, env') μ'
    | .ok (.bk, env') μ' => .ok (.bk, env') μ'
    | .ok (.ct, env') μ' => .ok (.ct, env') μ'
    | .ex x μ' => .ex x μ'
    | .bad => .bad
def nxO (o : Option Env) (μ : Store) : RS := ofO (o.map fun env' => (.nx, env')) μ
def kAsg (tg : TGT) (env : Env) (r : RD) : RS := lift env r fun d μ => nxO (asgT tg d env) μ
def nxM (env : Env) (o : Option Store) : RS := match o with
      | some μ' => .ok (.nx, env) μ'
      | none => .bad
def kSfld2 (f : Nat) (v : D) (env : Env) (r : RD) : RS := lift env r fun d μ => nxM env (setFld P.fok μ d f v)
def kSfld (o : CE) (f : Nat) (env : Env) (r : RD) : RS := lift env r fun v μ => kSfld2 P f v env (evE P call o env μ)
def kSidx3 (v d : D) (env : Env) (r : RD) : RS := lift env r fun k μ => nxM env (setIx μ d k v)
def kSidx2 (v : D) (i : CE) (env : Env) (r : RD) : RS := lift env r fun d μ => kSidx3 v d env (evE P call i env μ)
def kSidx (o i : CE) (env : Env) (r : RD) : RS := lift env r fun v μ => kSidx2 P call v i env (evE P call o env μ)
def kExp (env : Env) (r : RD) : RS := lift env r fun _ μ => .ok (.nx, env) μ
def kRet (env : Env) (r : RD) : RS := lift env r fun d μ => .ok (.rt d, env) μ
def kIteS2 (c : Option Bool) (a b : CS) (env : Env) (μ : Store) : RS := match c with
    | some true => evS P call a env μ
    | some false => evS P call b env μ
    | none => .bad
def kIteS (a b : CS) (env : Env) (r : RD) : RS := lift env r fun d μ => kIteS2 P call (truth μ d) a b env μ
def kFor1 (ok : Bool) (k : ITK) (ds : List D) (w : Option (Nat × Bool × List (D × D))) (tg : TGT) (b : CS) (clr : List Nat) (env : Env) (μ : Store) : RS := match w with
      | none => forS (evS P call b) tg k ds clr env μ
      | some w => if ok then unlkS w (forS (evS P call b) tg k ds clr env (lockC w μ)) else .bad
def kFor (ok : Bool) (k : ITK) (tg : TGT) (b : CS) (clr : List Nat) (env : Env) (r : RA) : RS := match r with
    | .ok ds μ => kFor1 P call ok k ds (walkedC μ k ds) tg b clr env μ
    | .ex x μ => .ex (x, env) μ
    | .bad => .bad
def kAug3 (i : Nat) (env : Env) (r : RD) : RS := lift env r fun z μ => .ok (.nx, env.set i (some z)) μ
def kAug2 (i : Nat) (o : BinO) (x y : D) (env : Env) (μ : Store) : RS := match x, y with
      | .int _, .int _ => kAug3 i env (binS μ o x y)
      | _, _ => .bad
def kAug1 (i : Nat) (o : BinO) (x : D) (env : Env) (r : RD) : RS := lift env r fun y μ => kAug2 i o x y env μ
def kAug (i : Nat) (o : BinO) (e : CE) (x : Option D) (env : Env) (μ : Store) : RS := match x with
    | none => .bad
    | some x => kAug1 i o x env (evE P call e env μ)
variable (a b : CS) (env : Env)
@[simp] theorem evS_skip : evS P call .skip env μ = .ok (.nx, env) μ := (rfl)
@[simp] theorem evS_seq : evS P call (.seq a b) env μ = kSeq P call b (evS P call a env μ) := (rfl)
@[simp] theorem evS_asg (tg : TGT) (e : CE) : evS P call (.asg tg e) env μ = kAsg tg env (evE P call e env μ) := (rfl)
@[simp] theorem evS_sfld (o : CE) (f : Nat) (e : CE) : evS P call (.sfld o f e) env μ = kSfld P call o f env (evE P call e env μ) := (rfl)
@[simp] theorem evS_sidx (o i e : CE) : evS P call (.sidx o i e) env μ = kSidx P call o i env (evE P call e env μ) := (rfl)
@[simp] theorem evS_exp (e : CE) : evS P call (.exp e) env μ = kExp env (evE P call e env μ) := (rfl)
@[simp] theorem evS_ret (e : CE) : evS P call (.ret e) env μ = kRet env (evE P call e env μ) := (rfl)
@[simp] theorem evS_ite (c : CE) : evS P call (.ite c a b) env μ = kIteS P call a b env (evE P call c env μ) := (rfl)
@[simp] theorem evS_for (k : ITK) (it : CE) (tg : TGT) (clr : List Nat) : evS P call (.for k it tg b clr) env μ = kFor P call (pathE it) k tg b clr env (evA P call it env μ) := (rfl)
@[simp] theorem evS_brk : evS P call .brk env μ = .ok (.bk, env) μ := (rfl)
@[simp] theorem evS_cnt : evS P call .cnt env μ = .ok (.ct, env) μ := (rfl)
@[simp] theorem evS_clr (vs : List Nat) : evS P call (.clr vs) env μ = .ok (.nx, wipeE env vs) μ := (rfl)
@[simp] theorem evS_aug (i : Nat) (o : BinO) (e : CE) : evS P call (.aug i o e) env μ = kAug P call i o e (getV env i) env μ := by
  show (match getV env i with
    | none => _
    | some x => _) = _
  unfold kAug
  cases getV env i <;> rfl
@[simp] theorem kAug_some (i : Nat) (o : BinO) (e : CE) : kAug P call i o e (some d) env μ = kAug1 i o d env (evE P call e env μ) := (rfl)
@[simp] theorem kAug1_ok (i : Nat) (o : BinO) : kAug1 i o d env (.ok e μ) = kAug2 i o d e env μ := (rfl)
@[simp] theorem kAug2_int (i : Nat) (o : BinO) (m n : Int) : kAug2 i o (.int m) (.int n) env μ = kAug3 i env (binS μ o (.int m) (.int n)) := (rfl)
@[simp] theorem kAug3_ok (i : Nat) : kAug3 i env (.ok d μ) = .ok (.nx, env.set i (some d)) μ := (rfl)
@[simp] theorem kSeq_nx : kSeq P call b (.ok (.nx, env) μ) = evS P call b env μ := (rfl)
@[simp] theorem kSeq_rt : kSeq P call b (.ok (.rt d, env) μ) = .ok (.rt d, env) μ := (rfl)
@[simp] theorem kSeq_bk : kSeq P call b (.ok (.bk, env) μ) = .ok (.bk, env) μ := (rfl)
@[simp] theorem kSeq_ct : kSeq P call b (.ok (.ct, env) μ) = .ok (.ct, env) μ := (rfl)
@[simp] theorem kAsg_ok (tg : TGT) : kAsg tg env (.ok d μ) = nxO (asgT tg d env) μ := (rfl)
@[simp] theorem nxO_some : nxO (some env) μ = .ok (.nx, env) μ := (rfl)
@[simp] theorem nxM_some : nxM env (some μ) = .ok (.nx, env) μ := (rfl)
@[simp] theorem kSfld_ok (o : CE) (f : Nat) : kSfld P call o f env (.ok d μ) = kSfld2 P f d env (evE P call o env μ) := (rfl)
@[simp] theorem kSfld2_ok (f : Nat) (v : D) : kSfld2 P f v env (.ok d μ) = nxM env (setFld P.fok μ d f v) := (rfl)
@[simp] theorem kSidx_ok (o i : CE) : kSidx P call o i env (.ok d μ) = kSidx2 P call d i env (evE P call o env μ) := (rfl)
@[simp] theorem kSidx2_ok (v : D) (i : CE) : kSidx2 P call v i env (.ok d μ) = kSidx3 v d env (evE P call i env μ) := (rfl)
@[simp] theorem kSidx3_ok (v : D) : kSidx3 v d env (.ok e μ) = nxM env (setIx μ d e v) := (rfl)
@[simp] theorem kExp_ok : kExp env (.ok d μ) = .ok (.nx, env) μ := (rfl)
@[simp] theorem kRet_ok : kRet env (.ok d μ) = .ok (.rt d, env) μ := (rfl)
@[simp] theorem kIteS_ok : kIteS P call a b env (.ok d μ) = kIteS2 P call (truth μ d) a b env μ := (rfl)
@[simp] theorem kIteS2_t : kIteS2 P call (some true) a b env μ = evS P call a env μ := (rfl)
@[simp] theorem kIteS2_f : kIteS2 P call (some false) a b env μ = evS P call b env μ := (rfl)
theorem kIteS2_dec (p : Prop) [Decidable p] : kIteS2 P call (some (decide p)) a b env μ = if p then evS P call a env μ else evS P call b env μ := by
  by_cases h : p <;> simp [h]
@[simp] theorem kFor_ok (ok : Bool) (k : ITK) (tg : TGT) (clr : List Nat) : kFor P call ok k tg b clr env (.ok ds μ) = kFor1 P call ok k ds (walkedC μ k ds) tg b clr env μ := (rfl)
@[simp] theorem kFor1_none (ok : Bool) (k : ITK) (tg : TGT) (clr : List Nat) : kFor1 P call ok k ds none tg b clr env μ = forS (evS P call b) tg k ds clr env μ := (rfl)
end
section
variable (μ : Store) (i j : Int) (x y : Str) (b c : Bool) (xs ys : List D) (n : Nat) (d e : D) (t : Bool) (kvs : List (D × D)) (fs : List (Nat × D))
@[simp] theorem getV_zero (o : Option D) (r : Env) : getV (o :: r) 0 = o := by cases o <;> rfl
@[simp] theorem getV_succ (o : Option D) (r : Env) (n : Nat) : getV (o :: r) (n + 1) = getV r n := (rfl)
@[simp] theorem asgT_nm (k : Nat) (env : Env) : asgT (.nm k) d env = some (env.set k (some d)) := (rfl)
@[simp] theorem asgT_tp (ts : TGT) (env : Env) : asgT (.tp ts) (.tup xs) env = asgT.asgTs ts xs env := (rfl)
@[simp] theorem asgTs_nil (env : Env) : asgT.asgTs .nil [] env = some env := (rfl)
@[simp] theorem asgTs_cons (k : Nat) (r : TGT) (env : Env) : asgT.asgTs (.cons (.nm k) r) (d :: xs) env = asgT.asgTs r xs (env.set k (some d)) := (rfl)
@[simp] theorem asgTs_tp (ts r : TGT) (env : Env) : asgT.asgTs (.cons (.tp ts) r) (.tup ys :: xs) env = (asgT.asgTs ts ys env).bind (asgT.asgTs r xs) := (rfl)
@[simp] theorem wipeE_nil (env : Env) : wipeE env [] = env := (rfl)
@[simp] theorem wipeE_cons (env : Env) (k : Nat) (r : List Nat) : wipeE env (k :: r) = (wipeE env r).set k none := (rfl)
@[simp] theorem binS_addi : binS μ .add (.int i) (.int j) = .ok (.int (i + j)) μ := (rfl)
@[simp] theorem binS_subi : binS μ .sub (.int i) (.int j) = .ok (.int (i - j)) μ := (rfl)
theorem binS_mul (h : mulB i j = true) : binS μ .mul (.int i) (.int j) = .ok (.int (i * j)) μ := if_pos h
theorem binS_mod (h : 0 < j) : binS μ .mod (.int i) (.int j) = .ok (.int (i % j)) μ := if_pos (decide_eq_true h)
theorem binS_fdiv (h : divB j = true) : binS μ .fdiv (.int i) (.int j) = .ok (.int (i / j)) μ := if_pos h
theorem binS_pow (h : powB i j = true) : binS μ .pow (.int i) (.int j) = .ok (.int (i ^ j.toNat)) μ := if_pos h
theorem binS_adds (h : sz (x.length + y.length) = true) : binS μ .add (.str x) (.str y) = .ok (.str (x ++ y)) μ := if_pos h
theorem binS_addl (h : sz (xs.length + ys.length) = true) : binS μ .add (.lst xs) (.lst ys) = .ok (.lst (xs ++ ys)) μ := if_pos h
@[simp] theorem cmpS_lt : cmpS μ .lt (.int i) (.int j) = some (decide (i < j)) := (rfl)
@[simp] theorem cmpS_le : cmpS μ .le (.int i) (.int j) = some (decide (i ≤ j)) := (rfl)
@[simp] theorem cmpS_gt : cmpS μ .gt (.int i) (.int j) = some (decide (j < i)) := (rfl)
@[simp] theorem cmpS_ge : cmpS μ .ge (.int i) (.int j) = some (decide (j ≤ i)) := (rfl)
@[simp] theorem cmpS_eq : cmpS μ .eq d e = eqS μ d e := by cases d <;> cases e <;> rfl
@[simp] theorem cmpS_ne : cmpS μ .ne d e = (eqS μ d e).map (!·) := by cases d <;> cases e <;> rfl
@[simp] theorem cmpS_in : cmpS μ .isin d e = inS μ d e := by cases d <;> cases e <;> rfl
@[simp] theorem cmpS_ni : cmpS μ .notin d e = (inS μ d e).map (!·) := by cases d <;> cases e <;> rfl
@[simp] theorem cmpS_isN : cmpS μ .is d .non = some (decide (d = .non)) := by cases d <;> rfl
@[simp] theorem cmpS_ntN : cmpS μ .isnt d .non = some (!decide (d = .non)) := by cases d <;> rfl
@[simp] theorem eqS_ii : eqS μ (.int i) (.int j) = some (decide (i = j)) := by
  show some (i == j) = _
  by_cases h : i = j <;> simp [h]
@[simp] theorem eqS_ss : eqS μ (.str x) (.str y) = some (decide (x = y)) := (rfl)
@[simp] theorem eqS_bb : eqS μ (.bl b) (.bl c) = some (b == c) := (rfl)
@[simp] theorem eqS_nn : eqS μ .non .non = some true := (rfl)
@[simp] theorem eqS_sn : eqS μ (.str x) .non = some false := (rfl)
@[simp] theorem eqS_ns : eqS μ .non (.str x) = some false := (rfl)
@[simp] theorem truth_bl : truth μ (.bl b) = some b := (rfl)
@[simp] theorem truth_non : truth μ .non = some false := (rfl)
@[simp] theorem truth_int : truth μ (.int i) = some (i != 0) := (rfl)
@[simp] theorem lstOf_lst : lstOf μ (.lst xs) = some xs := (rfl)
theorem lstOf_cell (h : μ[n]? = some (.lst xs)) : lstOf μ (.cell n) = some xs := by simp [lstOf, h]
@[simp] theorem dicOf_dic : dicOf μ (.dic t kvs) = some (t, kvs) := (rfl)
@[simp] theorem dicOf_lst : dicOf μ (.lst xs) = none := (rfl)
@[simp] theorem dicOf_tup : dicOf μ (.tup xs) = none := (rfl)
@[simp] theorem dicOf_str : dicOf μ (.str x) = none := (rfl)
theorem dicOf_cell (h : μ[n]? = some (.dic t kvs)) : dicOf μ (.cell n) = some (t, kvs) := by simp [dicOf, h]
@[simp] theorem insOf_ins : insOf μ (.ins n fs) = some (n, fs) := (rfl)
@[simp] theorem seqOf_lst : seqOf μ (.lst xs) = some xs := (rfl)
@[simp] theorem seqOf_tup : seqOf μ (.tup xs) = some xs := (rfl)
@[simp] theorem partOf_int : partOf (.int i) = some (some i) := (rfl)
@[simp] theorem put_t : put μ true d = .ok d μ := (rfl)
@[simp] theorem put_fl : put μ false (.lst xs) = .ok (.cell μ.length) (μ ++ [.lst xs]) := (rfl)
@[simp] theorem put_fd : put μ false (.dic t kvs) = .ok (.cell μ.length) (μ ++ [.dic t kvs]) := (rfl)
@[simp] theorem bmTy_get : bmTy μ .get (.dic t kvs) = true := (rfl)
@[simp] theorem bmTy_split : bmTy μ .split (.str x) = true := (rfl)
@[simp] theorem bmTy_join : bmTy μ .join (.str x) = true := (rfl)
@[simp] theorem bmTy_sw : bmTy μ .startswith (.str x) = true := (rfl)
@[simp] theorem bmTy_index : bmTy μ .index (.lst xs) = true := (rfl)
theorem bmTy_cell (h : μ[n]? = some (.lst xs)) : bmTy μ .append (.cell n) = true := by simp [bmTy, lstOf, h]
@[simp] theorem isiS_nil (sub : List (List Nat)) : isiS sub μ d [] = some false := (rfl)
theorem isiS_cons (sub : List (List Nat)) (k : Kd) (h : kindOf μ d = some k) (hk : kdB sub.length k = true) (u : Ty) (ts : List Ty) : isiS sub μ d (u :: ts) = if isiK sub k u then some true else isiS sub μ d ts := by
  unfold isiS
  rw [List.foldr_cons]
  have e : isi sub μ d u = some (isiK sub k u) := by simp [isi, h, hk]
  rw [e]
  cases isiK sub k u <;> rfl
@[simp] theorem biS_lenl : biS μ .len [.lst xs] = .ok (.int xs.length) μ := (rfl)
@[simp] theorem biS_lent : biS μ .len [.tup xs] = .ok (.int xs.length) μ := (rfl)
end
end Co

set_option linter.all false
set_option maxRecDepth 100000
set_option Elab.async false
/-! Co4: how values and cells lie in the abstract heap. -/
namespace Co
open PySem L2
def kD : Key → D
  | .inl i => .int i
  | .inr x => .str x
theorem kD_inj {a b : Key} (h : kD a = kD b) : a = b := by
  cases a <;> cases b <;> simp [kD] at h <;> simp [h]
theorem kDs_inj : ∀ {a b : List Key}, a.map kD = b.map kD → a = b
  | [], [], _ => rfl
  | [], _ :: _, h => by simp at h
  | _ :: _, [], h => by simp at h
  | a :: r, b :: s, h => by
    simp only [List.map_cons, List.cons.injEq] at h
    rw [kD_inj h.1, kDs_inj h.2]
/-- what the module holds: where the classes stand, how fields are called -/
structure Nam where
  K : PySem.W.Frag
  cA : Nat → Addr
  fN : Nat → Str
/-- signs that are there -/
def strK (x : Str) : Prop := ∀ c ∈ x.cps.toList, c < 0x110000
def keyK : Key → Prop
  | .inl _ => True
  | .inr x => strK x
section
variable (T : Nam)
mutual
inductive RepD (ι : List Addr) (G : Hp) : V → D → Prop
  | non : RepD ι G .non .non
  | bl (b : Bool) : RepD ι G (.bl b) (.bl b)
  | int (i : Int) : RepD ι G (.int i) (.int i)
  | str {x : Str} : strK x → RepD ι G (.str x) (.str x)
  | tup {a : Addr} {vs : List V} {ds : List D} : G a = some (.tup vs) → RepL ι G vs ds → RepD ι G (.ref a) (.tup ds)
  | wtup {a : Addr} {vs : List V} {ds : List D} : SqT T.K G a vs → RepL ι G vs ds → RepD ι G (.ref a) (.wtup ds)
  | lst {a : Addr} {vs : List V} {ds : List D} : Rd G a (.lst vs) → RepL ι G vs ds → RepD ι G (.ref a) (.lst ds)
  | dicK {a : Addr} {kvs : List (Key × V)} {o : Obj} {ds : List (D × D)} : G a = some (.frz o (.dK kvs)) → RepK ι G kvs ds → RepD ι G (.ref a) (.dic false ds)
  | dicT {a : Addr} {kvs : List (List Key × V)} {o : Obj} {ds : List (D × D)} : G a = some (.frz o (.dT kvs)) → RepT ι G kvs ds → RepD ι G (.ref a) (.dic true ds)
  | ins {a dx : Addr} {c : Nat} {vs : List (Str × V)} {ds : List (Nat × D)} : G a = some (.ins (T.cA c) dx vs) → RepF ι G vs ds → RepD ι G (.ref a) (.ins c ds)
  | cell {a : Addr} {i : Nat} : ι[i]? = some a → RepD ι G (.ref a) (.cell i)
inductive RepL (ι : List Addr) (G : Hp) : List V → List D → Prop
  | nil : RepL ι G [] []
  | cons {v : V} {vs : List V} {d : D} {ds : List D} : RepD ι G v d → RepL ι G vs ds → RepL ι G (v :: vs) (d :: ds)
inductive RepK (ι : List Addr) (G : Hp) : List (Key × V) → List (D × D) → Prop
  | nil : RepK ι G [] []
  | cons {k : Key} {v : V} {vs : List (Key × V)} {d : D} {ds : List (D × D)} : keyK k → RepD ι G v d → RepK ι G vs ds → RepK ι G ((k, v) :: vs) ((kD k, d) :: ds)
inductive RepT (ι : List Addr) (G : Hp) : List (List Key × V) → List (D × D) → Prop
  | nil : RepT ι G [] []
  | cons {k : List Key} {v : V} {vs : List (List Key × V)} {d : D} {ds : List (D × D)} : (∀ x ∈ k, keyK x) → RepD ι G v d → RepT ι G vs ds → RepT ι G ((k, v) :: vs) ((.tup (k.map kD), d) :: ds)
inductive RepF (ι : List Addr) (G : Hp) : List (Str × V) → List (Nat × D) → Prop
  | nil : RepF ι G [] []
  | cons {f : Nat} {v : V} {vs : List (Str × V)} {d : D} {ds : List (Nat × D)} : RepD ι G v d → RepF ι G vs ds → RepF ι G ((T.fN f, v) :: vs) ((f, d) :: ds)
end
end
/-- more cells, more that is frozen -/
structure Grow (ι ι' : List Addr) (G G' : Hp) : Prop where
  ix : ∀ (i : Nat) (a : Addr), ι[i]? = some a → ι'[i]? = some a
  ex : Evl.Ex G G'
theorem Grow.refl (ι : List Addr) (G : Hp) : Grow ι ι G G := ⟨fun _ _ h => h, Evl.Ex.refl G⟩
theorem Grow.trans {ι ι1 ι2 : List Addr} {G G1 G2 : Hp} (a : Grow ι ι1 G G1) (b : Grow ι1 ι2 G1 G2) : Grow ι ι2 G G2 := ⟨fun i x h => b.ix i x (a.ix i x h), a.ex.trans b.ex⟩
section
variable {T : Nam} {ι ι' : List Addr} {G G' : Hp}
mutual
theorem RepD.mono (g : Grow ι ι' G G') : ∀ {v : V} {d : D}, RepD T ι G v d → RepD T ι' G' v d
  | _, _, .non => .non
  | _, _, .bl b => .bl b
  | _, _, .int b => .int b
  | _, _, .str b => .str b
  | _, _, .tup e r => .tup (g.ex _ _ e) (r.mono g)
  | _, _, .wtup e r => .wtup (Evl.ex_t g.ex e) (r.mono g)
  | _, _, .lst e r => .lst (Evl.ex_rd g.ex e) (r.mono g)
  | _, _, .dicK e r => .dicK (g.ex _ _ e) (r.mono g)
  | _, _, .dicT e r => .dicT (g.ex _ _ e) (r.mono g)
  | _, _, .ins e r => .ins (g.ex _ _ e) (r.mono g)
  | _, _, .cell e => .cell (g.ix _ _ e)
theorem RepL.mono (g : Grow ι ι' G G') : ∀ {v : List V} {d : List D}, RepL T ι G v d → RepL T ι' G' v d
  | _, _, .nil => .nil
  | _, _, .cons h r => .cons (h.mono g) (r.mono g)
theorem RepK.mono (g : Grow ι ι' G G') : ∀ {v : List (Key × V)} {d : List (D × D)}, RepK T ι G v d → RepK T ι' G' v d
  | _, _, .nil => .nil
  | _, _, .cons hk h r => .cons hk (h.mono g) (r.mono g)
theorem RepT.mono (g : Grow ι ι' G G') : ∀ {v : List (List Key × V)} {d : List (D × D)}, RepT T ι G v d → RepT T ι' G' v d
  | _, _, .nil => .nil
  | _, _, .cons hk h r => .cons hk (h.mono g) (r.mono g)
theorem RepF.mono (g : Grow ι ι' G G') : ∀ {v : List (Str × V)} {d : List (Nat × D)}, RepF T ι G v d → RepF T ι' G' v d
  | _, _, .nil => .nil
  | _, _, .cons h r => .cons (h.mono g) (r.mono g)
end
/-- back to fewer cells, where they alone are named -/
theorem lt_back {n i : Nat} {a : Addr} (h : i < n) (e : ι[i]? = some a) : (ι.take n)[i]? = some a := by
  rw [List.getElem?_take, if_pos h]
  exact e
mutual
theorem RepD.back {n : Nat} : ∀ {v : V} {d : D}, RepD T ι G v d → d.lt n = true → RepD T (ι.take n) G v d
  | _, _, .non, _ => .non
  | _, _, .bl b, _ => .bl b
  | _, _, .int b, _ => .int b
  | _, _, .str b, _ => .str b
  | _, _, .tup e r, h => .tup e (r.back (by rw [lt_tup] at h; exact h))
  | _, _, .wtup e r, h => .wtup e (r.back (by unfold D.lt at h; exact h))
  | _, _, .lst e r, h => .lst e (r.back (by rw [lt_lst] at h; exact h))
  | _, _, .dicK e r, h => .dicK e (r.back (by rw [lt_dic] at h; exact h))
  | _, _, .dicT e r, h => .dicT e (r.back (by rw [lt_dic] at h; exact h))
  | _, _, .ins e r, h => .ins e (r.back (by rw [lt_ins] at h; exact h))
  | _, _, .cell e, h => .cell (lt_back (by rw [lt_cell] at h; exact of_decide_eq_true h) e)
theorem RepL.back {n : Nat} : ∀ {v : List V} {d : List D}, RepL T ι G v d → D.lts n d = true → RepL T (ι.take n) G v d
  | _, _, .nil, _ => .nil
  | _, _, .cons h r, e => by
    rw [lts_cons, Bool.and_eq_true] at e
    exact .cons (h.back e.1) (r.back e.2)
theorem RepK.back {n : Nat} : ∀ {v : List (Key × V)} {d : List (D × D)}, RepK T ι G v d → D.ltp n d = true → RepK T (ι.take n) G v d
  | _, _, .nil, _ => .nil
  | _, _, .cons hk h r, e => by
    rw [ltp_cons, Bool.and_eq_true, Bool.and_eq_true] at e
    exact .cons hk (h.back e.1.2) (r.back e.2)
theorem RepT.back {n : Nat} : ∀ {v : List (List Key × V)} {d : List (D × D)}, RepT T ι G v d → D.ltp n d = true → RepT T (ι.take n) G v d
  | _, _, .nil, _ => .nil
  | _, _, .cons hk h r, e => by
    rw [ltp_cons, Bool.and_eq_true, Bool.and_eq_true] at e
    exact .cons hk (h.back e.1.2) (r.back e.2)
theorem RepF.back {n : Nat} : ∀ {v : List (Str × V)} {d : List (Nat × D)}, RepF T ι G v d → D.ltf n d = true → RepF T (ι.take n) G v d
  | _, _, .nil, _ => .nil
  | _, _, .cons h r, e => by
    rw [ltf_cons, Bool.and_eq_true] at e
    exact .cons (h.back e.1) (r.back e.2)
end
theorem RepL.length : ∀ {v : List V} {d : List D}, RepL T ι G v d → v.length = d.length
  | _, _, .nil => rfl
  | _, _, .cons _ r => by simp [r.length]
theorem RepK.length : ∀ {v : List (Key × V)} {d : List (D × D)}, RepK T ι G v d → v.length = d.length
  | _, _, .nil => rfl
  | _, _, .cons _ _ r => by simp [r.length]
theorem RepT.length : ∀ {v : List (List Key × V)} {d : List (D × D)}, RepT T ι G v d → v.length = d.length
  | _, _, .nil => rfl
  | _, _, .cons _ _ r => by simp [r.length]
theorem RepF.length : ∀ {v : List (Str × V)} {d : List (Nat × D)}, RepF T ι G v d → v.length = d.length
  | _, _, .nil => rfl
  | _, _, .cons _ r => by simp [r.length]
theorem RepL.append : ∀ {v w : List V} {d e : List D}, RepL T ι G v d → RepL T ι G w e → RepL T ι G (v ++ w) (d ++ e)
  | _, _, _, _, .nil, s => s
  | _, _, _, _, .cons h r, s => .cons h (r.append s)
theorem RepL.get : ∀ {v : List V} {d : List D} {i : Nat} {x : D}, RepL T ι G v d → d[i]? = some x → ∃ u, v[i]? = some u ∧ RepD T ι G u x
  | _, _, _, _, .nil, e => by simp at e
  | _, _, 0, _, .cons h _, e => by simp at e; subst e; exact ⟨_, rfl, h⟩
  | _, _, i + 1, x, .cons _ r, e => r.get (i := i) (x := x) (by simpa using e)
theorem RepL.get' : ∀ {v : List V} {d : List D} {i : Nat} {u : V}, RepL T ι G v d → v[i]? = some u → ∃ x, d[i]? = some x ∧ RepD T ι G u x
  | _, _, _, _, .nil, e => by simp at e
  | _, _, 0, _, .cons h _, e => by simp at e; subst e; exact ⟨_, rfl, h⟩
  | _, _, i + 1, x, .cons _ r, e => r.get' (i := i) (u := x) (by simpa using e)
theorem RepL.set {x : D} {u : V} (h : RepD T ι G u x) : ∀ {v : List V} {d : List D} (i : Nat), RepL T ι G v d → RepL T ι G (v.set i u) (d.set i x)
  | _, _, _, .nil => .nil
  | _, _, 0, .cons _ r => .cons h r
  | _, _, i + 1, .cons q r => .cons q (r.set h i)
theorem RepL.drop : ∀ {v : List V} {d : List D} (n : Nat), RepL T ι G v d → RepL T ι G (v.drop n) (d.drop n)
  | _, _, 0, r => r
  | _, _, _ + 1, .nil => .nil
  | _, _, n + 1, .cons _ r => r.drop n
theorem RepL.take : ∀ {v : List V} {d : List D} (n : Nat), RepL T ι G v d → RepL T ι G (v.take n) (d.take n)
  | _, _, 0, _ => .nil
  | _, _, _ + 1, .nil => .nil
  | _, _, n + 1, .cons h r => .cons h (r.take n)
theorem RepL.reverse {v : List V} {d : List D} (r : RepL T ι G v d) : RepL T ι G v.reverse d.reverse := by
  induction v generalizing d with
  | nil => cases r; exact .nil
  | cons x v ih => cases r with
    | cons h r => rw [List.reverse_cons, List.reverse_cons]; exact (ih r).append (.cons h .nil)
/-! ### dicts -/
theorem RepK.find : ∀ {v : List (Key × V)} {d : List (D × D)} (k : Key), RepK T ι G v d → match kfind d (kD k) with
    | some x => ∃ u, valV v k = some u ∧ RepD T ι G u x
    | none => valV v k = none
  | _, _, _, .nil => rfl
  | (j, u) :: vs, (_, x) :: ds, k, .cons hk h r => by
    have ih := r.find k
    unfold kfind
    by_cases e : j = k
    · subst e
      rw [if_pos rfl]
      exact ⟨u, by unfold valV; simp, h⟩
    · rw [if_neg fun z => e (kD_inj z)]
      have ev : valV ((j, u) :: vs) k = valV vs k := by
        unfold valV
        rw [List.find?_cons_of_neg (by simp [e])]
      rw [ev]
      exact ih
theorem RepT.find : ∀ {v : List (List Key × V)} {d : List (D × D)} (k : List Key), RepT T ι G v d → match kfind d (.tup (k.map kD)) with
    | some x => ∃ u, valV v k = some u ∧ RepD T ι G u x
    | none => valV v k = none
  | _, _, _, .nil => rfl
  | (j, u) :: vs, (_, x) :: ds, k, .cons hk h r => by
    have ih := r.find k
    unfold kfind
    by_cases e : j = k
    · subst e
      rw [if_pos rfl]
      exact ⟨u, by unfold valV; simp, h⟩
    · rw [if_neg fun z => e (kDs_inj (D.tup.inj z))]
      have ev : valV ((j, u) :: vs) k = valV vs k := by
        unfold valV
        rw [List.find?_cons_of_neg (by simp [e])]
      rw [ev]
      exact ih
theorem RepK.any (k : Key) : ∀ {v : List (Key × V)} {d : List (D × D)}, RepK T ι G v d → (d.any fun p => decide (p.1 = kD k)) = v.any fun p => decide (p.1 = k)
  | _, _, .nil => rfl
  | (j, u) :: vs, (_, x) :: ds, .cons hk h r => by
    simp only [List.any_cons]
    rw [r.any k]
    by_cases e : j = k
    · simp [e]
    · have e2 : ¬ kD j = kD k := fun z => e (kD_inj z)
      simp [e, e2]
theorem RepT.any (k : List Key) : ∀ {v : List (List Key × V)} {d : List (D × D)}, RepT T ι G v d → (d.any fun p => decide (p.1 = .tup (k.map kD))) = v.any fun p => decide (p.1 = k)
  | _, _, .nil => rfl
  | (j, u) :: vs, (_, x) :: ds, .cons hk h r => by
    simp only [List.any_cons]
    rw [r.any k]
    by_cases e : j = k
    · simp [e]
    · have e2 : ¬ D.tup (j.map kD) = .tup (k.map kD) := fun z => e (kDs_inj (D.tup.inj z))
      rw [decide_eq_false e, decide_eq_false e2]
theorem RepK.mapP (k : Key) {w : V} {x : D} (hx : RepD T ι G w x) : ∀ {v : List (Key × V)} {d : List (D × D)}, RepK T ι G v d → RepK T ι G (v.map fun kv => if kv.1 = k then (kv.1, w) else kv) (d.map fun p => if p.1 = kD k then (p.1, x) else p)
  | _, _, .nil => .nil
  | (j, u) :: vs, (_, y) :: ds, .cons hk h r => by
    simp only [List.map_cons]
    by_cases e : j = k
    · rw [if_pos e, if_pos (by rw [e])]
      exact .cons hk hx (r.mapP k hx)
    · rw [if_neg e, if_neg fun z => e (kD_inj z)]
      exact .cons hk h (r.mapP k hx)
theorem RepT.mapP (k : List Key) {w : V} {x : D} (hx : RepD T ι G w x) : ∀ {v : List (List Key × V)} {d : List (D × D)}, RepT T ι G v d → RepT T ι G (v.map fun kv => if kv.1 = k then (kv.1, w) else kv) (d.map fun p => if p.1 = .tup (k.map kD) then (p.1, x) else p)
  | _, _, .nil => .nil
  | (j, u) :: vs, (_, y) :: ds, .cons hk h r => by
    simp only [List.map_cons]
    by_cases e : j = k
    · rw [if_pos e, if_pos (by rw [e])]
      exact .cons hk hx (r.mapP k hx)
    · rw [if_neg e, if_neg fun z => e (kDs_inj (D.tup.inj z))]
      exact .cons hk h (r.mapP k hx)
theorem RepK.append : ∀ {v w : List (Key × V)} {d e : List (D × D)}, RepK T ι G v d → RepK T ι G w e → RepK T ι G (v ++ w) (d ++ e)
  | _, _, _, _, .nil, s => s
  | _, _, _, _, .cons hk h r, s => .cons hk h (r.append s)
theorem RepT.append : ∀ {v w : List (List Key × V)} {d e : List (D × D)}, RepT T ι G v d → RepT T ι G w e → RepT T ι G (v ++ w) (d ++ e)
  | _, _, _, _, .nil, s => s
  | _, _, _, _, .cons hk h r, s => .cons hk h (r.append s)
theorem RepK.put (k : Key) (hkk : keyK k) {w : V} {x : D} (hx : RepD T ι G w x) {v : List (Key × V)} {d : List (D × D)} (r : RepK T ι G v d) : RepK T ι G (putK v k w) (kput d (kD k) x) := by
  unfold putK kput
  rw [r.any k]
  split
  · exact r.mapP k hx
  · exact r.append (.cons hkk hx .nil)
theorem RepT.put (k : List Key) (hkk : ∀ x ∈ k, keyK x) {w : V} {x : D} (hx : RepD T ι G w x) {v : List (List Key × V)} {d : List (D × D)} (r : RepT T ι G v d) : RepT T ι G (putK v k w) (kput d (.tup (k.map kD)) x) := by
  unfold putK kput
  rw [r.any k]
  split
  · exact r.mapP k hx
  · exact r.append (.cons hkk hx .nil)
/-! ### keys -/
theorem key_of {v : V} {d : D} (r : RepD T ι G v d) (h : d.isKey = true) : ∃ k, v = kV k ∧ d = kD k ∧ keyK k := by
  cases r with
  | int i => exact ⟨.inl i, rfl, rfl, trivial⟩
  | str hs => exact ⟨.inr _, rfl, rfl, hs⟩
  | _ => cases h
theorem keys_of : ∀ {v : List V} {d : List D}, RepL T ι G v d → d.all D.isKey = true → ∃ k : List Key, v = k.map kV ∧ d = k.map kD ∧ ∀ x ∈ k, keyK x
  | _, _, .nil, _ => ⟨[], rfl, rfl, fun _ h => nomatch h⟩
  | _, _, .cons h r, e => by
    rw [List.all_cons, Bool.and_eq_true] at e
    obtain ⟨k, e1, e2, e5⟩ := key_of h e.1
    obtain ⟨ks, e3, e4, e6⟩ := keys_of r e.2
    exact ⟨k :: ks, by rw [e1, e3]; rfl, by rw [e2, e4]; rfl, fun x hx => (List.mem_cons.mp hx).elim (fun z => z ▸ e5) (e6 x)⟩
/-! ### fields -/
theorem RepF.find (inj : ∀ f g, T.fN f = T.fN g → f = g) (f : Nat) : ∀ {v : List (Str × V)} {d : List (Nat × D)}, RepF T ι G v d → match fget d f with
    | some x => ∃ u, v.lookup (T.fN f) = some u ∧ RepD T ι G u x
    | none => v.lookup (T.fN f) = none
  | _, _, .nil => rfl
  | (_, u) :: vs, (g, x) :: ds, .cons h r => by
    have ih := RepF.find inj f r
    unfold fget
    by_cases e : g = f
    · subst e
      rw [if_pos rfl]
      exact ⟨u, by simp [List.lookup], h⟩
    · rw [if_neg e]
      have e2 : (T.fN f == T.fN g) = false := beq_eq_false_iff_ne.mpr fun z => e (inj _ _ z.symm)
      have ev : List.lookup (T.fN f) ((T.fN g, u) :: vs) = vs.lookup (T.fN f) := by simp [List.lookup, e2]
      rw [ev]
      exact ih
end
/-- a cell that is locked is told apart by a double mark -/
def rl : HO → HO
  | .frz _ (.frz o w) => .frz o w
  | u => u
/-- frozen data stand, and what is locked stays locked -/
structure Fz (G H : Hp) : Prop where
  at_ : ∀ a u, G a = some u → H a = some (rl u)
theorem Fz.tup {G H : Hp} (f : Fz G H) {a : Addr} {vs : List V} (h : G a = some (.tup vs)) : H a = some (.tup vs) := f.at_ a _ h
theorem Fz.ins {G H : Hp} (f : Fz G H) {a C dx : Addr} {vs : List (Str × V)} (h : G a = some (.ins C dx vs)) : H a = some (.ins C dx vs) := f.at_ a _ h
theorem Fz.dk {G H : Hp} (f : Fz G H) {a : Addr} {o : Obj} {vs : List (Key × V)} (h : G a = some (.frz o (.dK vs))) : H a = some (.frz o (.dK vs)) := f.at_ a _ h
theorem Fz.dt {G H : Hp} (f : Fz G H) {a : Addr} {o : Obj} {vs : List (List Key × V)} (h : G a = some (.frz o (.dT vs))) : H a = some (.frz o (.dT vs)) := f.at_ a _ h
theorem Fz.rdl {G H : Hp} (f : Fz G H) {a : Addr} {vs : List V} (h : Rd G a (.lst vs)) : Rd H a (.lst vs) := by
  rcases h with h | ⟨o, h⟩
  · exact .inl (f.at_ _ _ h)
  · exact .inr ⟨o, f.at_ _ _ h⟩
theorem Fz.rdt {G H : Hp} (f : Fz G H) {a : Addr} {vs : List V} (h : Rd G a (.tup vs)) : Rd H a (.tup vs) := by
  rcases h with h | ⟨o, h⟩
  · exact .inl (f.at_ _ _ h)
  · exact .inr ⟨o, f.at_ _ _ h⟩
theorem Fz.sql {K : PySem.W.Frag} {G H : Hp} (f : Fz G H) {a : Addr} {vs : List V} (h : SqL K G a vs) : SqL K H a vs := by
  rcases h with h | h
  · exact .inl (f.rdl h)
  · exact .inr h
theorem Fz.sqt {K : PySem.W.Frag} {G H : Hp} (f : Fz G H) {a : Addr} {vs : List V} (h : SqT K G a vs) : SqT K H a vs := by
  rcases h with h | h
  · exact .inl (f.rdt h)
  · exact .inr h
theorem Fz.some {G H : Hp} (f : Fz G H) {a : Addr} {u : HO} (h : G a = some u) : H a ≠ none := by
  rw [f.at_ a _ h]; simp
theorem Fz.free {G H : Hp} (f : Fz G H) {a : Addr} (h : H a = none) : G a = none := by
  cases e : G a with
  | none => rfl
  | some u => exact absurd h (f.some e)
theorem Fz.new {G H : Hp} (f : Fz G H) {p : Addr} (o : HO) (h : H p = none) (ho : rl o = o) : Fz (upd G p o) (upd H p o) := ⟨fun a u e => by
  by_cases q : a = p
  · subst q
    rw [upd_same] at e ⊢
    cases e
    rw [ho]
  · rw [upd_ne q] at e ⊢
    exact f.at_ a u e⟩
/-- what is not frozen changes -/
theorem Fz.upd {G H : Hp} (f : Fz G H) {p : Addr} (o : HO) (h : G p = none) : Fz G (upd H p o) := ⟨fun a u e => by
  have q : a ≠ p := fun z => by rw [z, h] at e; cases e
  rw [upd_ne q]
  exact f.at_ a u e⟩
section
variable (T : Nam)
/-- a cell's content in the heap -/
inductive CellAt (ι : List Addr) (G H : Hp) (a : Addr) : Cell → Prop
  | dead : CellAt ι G H a .dead
  | lst {vs : List V} {xs : List D} : G a = none → H a = some (.lst vs) → RepL T ι G vs xs → CellAt ι G H a (.lst xs)
  | dicK {kvs : List (Key × V)} {ds : List (D × D)} : G a = none → H a = some (.dK kvs) → RepK T ι G kvs ds → CellAt ι G H a (.dic false ds)
  | dicT {kvs : List (List Key × V)} {ds : List (D × D)} : G a = none → H a = some (.dT kvs) → RepT T ι G kvs ds → CellAt ι G H a (.dic true ds)
  | ins {dx : Addr} {c : Nat} {vs : List (Str × V)} {ds : List (Nat × D)} : G a = none → H a = some (.ins (T.cA c) dx vs) → RepF T ι G vs ds → CellAt ι G H a (.ins c ds)
  | ldicK {o : Obj} {kvs : List (Key × V)} {ds : List (D × D)} : G a = some (.frz o (.frz o (.dK kvs))) → H a = some (.frz o (.dK kvs)) → RepK T ι G kvs ds → CellAt ι G H a (.ldic false ds)
  | ldicT {o : Obj} {kvs : List (List Key × V)} {ds : List (D × D)} : G a = some (.frz o (.frz o (.dT kvs))) → H a = some (.frz o (.dT kvs)) → RepT T ι G kvs ds → CellAt ι G H a (.ldic true ds)
structure RelH (ι : List Addr) (G : Hp) (μ : Store) (H : Hp) : Prop where
  fz : Fz G H
  len : ι.length = μ.length
  nd : ι.Nodup
  trk : ∀ a ∈ ι, H a ≠ none
  cel : ∀ (i : Nat) (a : Addr) (c : Cell), ι[i]? = some a → μ[i]? = some c → CellAt T ι G H a c
structure RelS (ι : List Addr) (G : Hp) (env : Env) (σ : L2.St) : Prop where
  len : env.length = σ.length
  at_ : ∀ (i : Nat) (d : D), env[i]? = some (some d) → ∃ v, σ[i]? = some (some v) ∧ RepD T ι G v d
end
section
variable {T : Nam} {ι ι' : List Addr} {G G' H H' : Hp} {μ μ' : Store} {env : Env} {σ : L2.St}
theorem CellAt.grow {a : Addr} {c : Cell} (g : Grow ι ι' G G') (h : CellAt T ι G H a c) (hg : G' a = none ∨ c.free = false) (hh : ∀ u, H a = some u → H' a = some u) : CellAt T ι' G' H' a c := by
  cases h with
  | dead => exact .dead
  | lst h1 h2 h3 =>
    rcases hg with hg | hg
    · exact .lst hg (hh _ h2) (h3.mono g)
    · cases hg
  | dicK h1 h2 h3 =>
    rcases hg with hg | hg
    · exact .dicK hg (hh _ h2) (h3.mono g)
    · cases hg
  | dicT h1 h2 h3 =>
    rcases hg with hg | hg
    · exact .dicT hg (hh _ h2) (h3.mono g)
    · cases hg
  | ins h1 h2 h3 =>
    rcases hg with hg | hg
    · exact .ins hg (hh _ h2) (h3.mono g)
    · cases hg
  | ldicK h1 h2 h3 => exact .ldicK (g.ex _ _ h1) (hh _ h2) (h3.mono g)
  | ldicT h1 h2 h3 => exact .ldicT (g.ex _ _ h1) (hh _ h2) (h3.mono g)
theorem CellAt.free {a : Addr} {c : Cell} (h : CellAt T ι G H a c) (hc : c.free = true) : G a = none := by
  cases h with
  | dead => cases hc
  | lst h1 => exact h1
  | dicK h1 => exact h1
  | dicT h1 => exact h1
  | ins h1 => exact h1
  | ldicK h1 => cases hc
  | ldicT h1 => cases hc
theorem RelS.mono (g : Grow ι ι' G G') (r : RelS T ι G env σ) : RelS T ι' G' env σ := ⟨r.len, fun i d e => by
  obtain ⟨v, h1, h2⟩ := r.at_ i d e
  exact ⟨v, h1, h2.mono g⟩⟩
theorem RelS.set (r : RelS T ι G env σ) {v : V} {d : D} (h : RepD T ι G v d) (i : Nat) : RelS T ι G (env.set i (some d)) (σ.set i (some v)) := ⟨by rw [List.length_set, List.length_set]; exact r.len, fun j x e => by
  by_cases hj : i = j
  · subst hj
    by_cases hl : i < env.length
    · rw [List.getElem?_set_self hl] at e
      cases e
      exact ⟨v, by rw [List.getElem?_set_self (by rw [← r.len]; exact hl)], h⟩
    · rw [List.getElem?_eq_none (by rw [List.length_set]; omega)] at e
      cases e
  · rw [List.getElem?_set_ne hj] at e ⊢
    exact r.at_ j x e⟩
theorem RelS.forget (r : RelS T ι G env σ) (i : Nat) : RelS T ι G (env.set i none) σ := ⟨by rw [List.length_set]; exact r.len, fun j x e => by
  by_cases hj : i = j
  · subst hj
    by_cases hl : i < env.length
    · rw [List.getElem?_set_self hl] at e
      cases e
    · rw [List.getElem?_eq_none (by rw [List.length_set]; omega)] at e
      cases e
  · rw [List.getElem?_set_ne hj] at e
    exact r.at_ j x e⟩
theorem RelS.wipeE (r : RelS T ι G env σ) : ∀ vs : List Nat, RelS T ι G (wipeE env vs) σ
  | [] => r
  | v :: vs => (RelS.wipeE r vs).forget v
/-- both sides forget -/
theorem RelS.wipe2 (r : RelS T ι G env σ) : ∀ vs : List Nat, RelS T ι G (Co.wipeE env vs) (wipe σ vs)
  | [] => r
  | v :: vs => by
    have h := RelS.wipe2 r vs
    refine ⟨by show (List.set _ _ _).length = (List.set _ _ _).length; rw [List.length_set, List.length_set]; exact h.len, fun j x e => ?_⟩
    have e' : ((Co.wipeE env vs).set v none)[j]? = some (some x) := e
    by_cases hj : v = j
    · subst hj
      by_cases hl : v < (Co.wipeE env vs).length
      · rw [List.getElem?_set_self hl] at e'
        cases e'
      · rw [List.getElem?_eq_none (by rw [List.length_set]; omega)] at e'
        cases e'
    · rw [List.getElem?_set_ne hj] at e'
      obtain ⟨w, h1, h2⟩ := h.at_ j x e'
      exact ⟨w, by show ((wipe σ vs).set v none)[j]? = _; rw [List.getElem?_set_ne hj]; exact h1, h2⟩
theorem getV_some {i : Nat} {d : D} (h : getV env i = some d) : env[i]? = some (some d) := by
  unfold getV at h
  split at h
  · rename_i e
    cases h
    exact e
  · cases h
/-- a new frozen object -/
theorem RelH.frozen (r : RelH T ι G μ H) {p : Addr} (o : HO) (h : H p = none) (ho : rl o = o) : RelH T ι (upd G p o) μ (upd H p o) :=
  ⟨r.fz.new o h ho, r.len, r.nd, fun a ha => by
    have q : a ≠ p := fun z => r.trk a ha (by rw [z]; exact h)
    rw [upd_ne q]
    exact r.trk a ha, fun i a c e1 e2 => by
    have q : a ≠ p := fun z => r.trk a (List.mem_of_getElem? e1) (by rw [z]; exact h)
    refine (r.cel i a c e1 e2).grow ⟨fun _ _ e => e, Evl.Ex.new (r.fz.free h)⟩ ?_ fun u e => by rw [upd_ne q]; exact e
    cases hc : c.free
    · exact .inr rfl
    · exact .inl (by rw [upd_ne q]; exact (r.cel i a c e1 e2).free hc)⟩
theorem Grow.frozen {p : Addr} (o : HO) (h : G p = none) : Grow ι ι G (upd G p o) := ⟨fun _ _ e => e, Evl.Ex.new h⟩
/-- a new object, known to nobody -/
theorem RelH.other (r : RelH T ι G μ H) {p : Addr} (o : HO) (h : H p = none) : RelH T ι G μ (upd H p o) :=
  ⟨r.fz.upd o (r.fz.free h), r.len, r.nd, fun a ha => by
    have q : a ≠ p := fun z => r.trk a ha (by rw [z]; exact h)
    rw [upd_ne q]
    exact r.trk a ha, fun i a c e1 e2 => by
    have q : a ≠ p := fun z => r.trk a (List.mem_of_getElem? e1) (by rw [z]; exact h)
    refine (r.cel i a c e1 e2).grow (Grow.refl ι G) ?_ fun u e => by rw [upd_ne q]; exact e
    cases hc : c.free
    · exact .inr rfl
    · exact .inl ((r.cel i a c e1 e2).free hc)⟩
theorem Grow.cell (ι : List Addr) (G : Hp) (p : Addr) : Grow ι (ι ++ [p]) G G := ⟨fun i a e => by
  rw [List.getElem?_append_left (List.getElem?_eq_some_iff.mp e).1]
  exact e, Evl.Ex.refl G⟩
/-- a new cell -/
theorem RelH.cell (r : RelH T ι G μ H) {p : Addr} {o : HO} {c : Cell} (h : H p = none) (hc : CellAt T ι G (upd H p o) p c) : RelH T (ι ++ [p]) G (μ ++ [c]) (upd H p o) := by
  have r2 := r.other o h
  have hp : p ∉ ι := fun z => r.trk p z h
  refine ⟨r2.fz, by rw [List.length_append, List.length_append, r.len]; rfl, ?_, fun a ha => ?_, fun i a d e1 e2 => ?_⟩
  · rw [List.nodup_append]
    refine ⟨r.nd, by simp, fun a ha b hb e => ?_⟩
    rw [List.mem_singleton] at hb
    subst hb
    subst e
    exact hp ha
  · rcases List.mem_append.mp ha with ha | ha
    · exact r2.trk a ha
    · rw [List.mem_singleton] at ha
      rw [ha, upd_same]
      simp
  · by_cases hi : i < ι.length
    · rw [List.getElem?_append_left hi] at e1
      rw [List.getElem?_append_left (by rw [← r.len]; exact hi)] at e2
      refine (r2.cel i a d e1 e2).grow (Grow.cell ι G p) ?_ fun _ e => e
      cases hd : d.free
      · exact .inr rfl
      · exact .inl ((r2.cel i a d e1 e2).free hd)
    · have hi2 : i = ι.length := by
        have := (List.getElem?_eq_some_iff.mp e1).1
        rw [List.length_append, List.length_singleton] at this
        omega
      subst hi2
      rw [List.getElem?_append_right (Nat.le_refl _), Nat.sub_self] at e1
      rw [List.getElem?_append_right (by rw [r.len]; exact Nat.le_refl _), r.len, Nat.sub_self] at e2
      cases e1
      cases e2
      refine hc.grow (Grow.cell ι G p) ?_ fun _ e => e
      cases hd : c.free
      · exact .inr rfl
      · exact .inl (hc.free hd)
theorem nodup_get {l : List Addr} (h : l.Nodup) {i j : Nat} {a : Addr} (e1 : l[i]? = some a) (e2 : l[j]? = some a) : i = j := by
  obtain ⟨h1, q1⟩ := List.getElem?_eq_some_iff.mp e1
  obtain ⟨h2, q2⟩ := List.getElem?_eq_some_iff.mp e2
  exact (List.getElem_inj h).mp (q1.trans q2.symm)
/-- a cell is written -/
theorem RelH.write (r : RelH T ι G μ H) {p : Addr} {o : HO} {c c' : Cell} {i : Nat} (e1 : ι[i]? = some p) (e2 : μ[i]? = some c) (hd : c.free = true) (hc : CellAt T ι G (upd H p o) p c') : RelH T ι G (μ.set i c') (upd H p o) := by
  have hg := (r.cel i p c e1 e2).free hd
  refine ⟨r.fz.upd o hg, by rw [List.length_set]; exact r.len, r.nd, fun a ha => ?_, fun j a d f1 f2 => ?_⟩
  · by_cases q : a = p
    · rw [q, upd_same]
      simp
    · rw [upd_ne q]
      exact r.trk a ha
  · by_cases hj : i = j
    · subst hj
      rw [e1] at f1
      cases f1
      rw [List.getElem?_set_self (List.getElem?_eq_some_iff.mp e2).1] at f2
      cases f2
      exact hc
    · rw [List.getElem?_set_ne hj] at f2
      have q : a ≠ p := fun z => hj (nodup_get r.nd e1 (z ▸ f1))
      refine (r.cel j a d f1 f2).grow (Grow.refl ι G) ?_ fun u e => by rw [upd_ne q]; exact e
      cases hd : d.free
      · exact .inr rfl
      · exact .inl ((r.cel j a d f1 f2).free hd)
/-- a cell is frozen, or locked -/
theorem RelH.mark (r : RelH T ι G μ H) {i : Nat} {a : Addr} {c c' : Cell} {o : HO} (hc : μ[i]? = some c) (hd : c.free = true) (ha : ι[i]? = some a) (hH : ∀ b, b ≠ a → H' b = H b) (ho : H' a = some (rl o))
    (hc' : CellAt T ι (upd G a o) H' a c') : Grow ι ι G (upd G a o) ∧ RelH T ι (upd G a o) (μ.set i c') H' := by
  have hg : G a = none := (r.cel i a c ha hc).free hd
  have g : Grow ι ι G (upd G a o) := ⟨fun _ _ e => e, Evl.Ex.new hg⟩
  refine ⟨g, ⟨fun b u e => ?_⟩, by rw [List.length_set]; exact r.len, r.nd, fun b hb => ?_, fun j b d f1 f2 => ?_⟩
  · by_cases q : b = a
    · subst q
      rw [upd_same] at e
      cases e
      exact ho
    · rw [upd_ne q] at e
      rw [hH b q]
      exact r.fz.at_ b u e
  · by_cases q : b = a
    · rw [q, ho]; simp
    · rw [hH b q]; exact r.trk b hb
  · by_cases hj : i = j
    · subst hj
      rw [List.getElem?_set_self (List.getElem?_eq_some_iff.mp hc).1] at f2
      cases f2
      rw [ha] at f1
      cases f1
      exact hc'
    · rw [List.getElem?_set_ne hj] at f2
      have q : b ≠ a := fun z => hj (nodup_get r.nd ha (z ▸ f1))
      refine (r.cel j b d f1 f2).grow g ?_ fun _ e => by rw [hH b q]; exact e
      cases hd : d.free
      · exact .inr rfl
      · exact .inl (by rw [upd_ne q]; exact (r.cel j b d f1 f2).free hd)
theorem RelH.addr (r : RelH T ι G μ H) {i : Nat} {c : Cell} (hc : μ[i]? = some c) : ∃ a, ι[i]? = some a :=
  ⟨_, List.getElem?_eq_getElem (by rw [r.len]; exact (List.getElem?_eq_some_iff.mp hc).1)⟩
theorem RelH.thaw (r : RelH T ι G μ H) {i : Nat} {d : D} (h : thaw i μ = some (d, μ')) : ∃ G', Grow ι ι G G' ∧ RelH T ι G' μ' H ∧ ∀ a, ι[i]? = some a → RepD T ι G' (.ref a) d := by
  unfold Co.thaw at h
  split at h
  · rename_i xs hc
    cases h
    obtain ⟨a, ha⟩ := r.addr hc
    cases r.cel i a _ ha hc with
    | @lst vs _ h1 h2 h3 =>
      obtain ⟨g, R⟩ := r.mark (c' := .dead) (o := .lst vs) hc rfl ha (fun _ _ => rfl) h2 .dead
      exact ⟨_, g, R, fun b hb => by rw [ha] at hb; cases hb; exact .lst (.inl upd_same) (h3.mono g)⟩
  · rename_i c fs hc
    cases h
    obtain ⟨a, ha⟩ := r.addr hc
    cases r.cel i a _ ha hc with
    | @ins dx _ vs _ h1 h2 h3 =>
      obtain ⟨g, R⟩ := r.mark (c' := .dead) (o := .ins (T.cA c) dx vs) hc rfl ha (fun _ _ => rfl) h2 .dead
      exact ⟨_, g, R, fun b hb => by rw [ha] at hb; cases hb; exact .ins upd_same (h3.mono g)⟩
  · cases h
/-- .. a dict: the record is pinned -/
theorem RelH.thawD (r : RelH T ι G μ H) {i : Nat} {t : Bool} {kvs : List (D × D)} {a : Addr} (hc : μ[i]? = some (.dic t kvs)) (ha : ι[i]? = some a) : ∃ u, H a = some u ∧ Mut (some u) ∧
    ∀ od, ∃ G', Grow ι ι G G' ∧ RelH T ι G' (μ.set i .dead) (upd H a (.frz od u)) ∧ RepD T ι G' (.ref a) (.dic t kvs) := by
  cases r.cel i a _ ha hc with
  | dicK h1 h2 h3 =>
    refine ⟨_, h2, trivial, fun od => ?_⟩
    obtain ⟨g, R⟩ := r.mark (c' := .dead) (o := .frz od (.dK _)) (H' := L2.upd H a (.frz od (.dK _))) hc rfl ha (fun _ q => upd_ne q) upd_same .dead
    exact ⟨_, g, R, .dicK upd_same (h3.mono g)⟩
  | dicT h1 h2 h3 =>
    refine ⟨_, h2, trivial, fun od => ?_⟩
    obtain ⟨g, R⟩ := r.mark (c' := .dead) (o := .frz od (.dT _)) (H' := L2.upd H a (.frz od (.dT _))) hc rfl ha (fun _ q => upd_ne q) upd_same .dead
    exact ⟨_, g, R, .dicT upd_same (h3.mono g)⟩
/-- a dict's cell is locked; and freed again -/
theorem RelH.lock (r : RelH T ι G μ H) {i : Nat} {t : Bool} {kvs : List (D × D)} {a : Addr} (hc : μ[i]? = some (.dic t kvs)) (ha : ι[i]? = some a) : ∃ u, H a = some u ∧ Mut (some u) ∧ G a = none ∧
    ∀ od, Grow ι ι G (upd G a (.frz od (.frz od u))) ∧ RelH T ι (upd G a (.frz od (.frz od u))) (μ.set i (.ldic t kvs)) (upd H a (.frz od u)) := by
  cases r.cel i a _ ha hc with
  | @dicK vs _ h1 h2 h3 =>
    refine ⟨_, h2, trivial, h1, fun od => ?_⟩
    have g : Grow ι ι G (L2.upd G a (.frz od (.frz od (.dK vs)))) := ⟨fun _ _ e => e, Evl.Ex.new h1⟩
    exact r.mark (o := .frz od (.frz od (.dK vs))) (H' := L2.upd H a (.frz od (.dK vs))) hc rfl ha (fun _ q => upd_ne q) upd_same (.ldicK upd_same upd_same (h3.mono g))
  | @dicT vs _ h1 h2 h3 =>
    refine ⟨_, h2, trivial, h1, fun od => ?_⟩
    have g : Grow ι ι G (L2.upd G a (.frz od (.frz od (.dT vs)))) := ⟨fun _ _ e => e, Evl.Ex.new h1⟩
    exact r.mark (o := .frz od (.frz od (.dT vs))) (H' := L2.upd H a (.frz od (.dT vs))) hc rfl ha (fun _ q => upd_ne q) upd_same (.ldicT upd_same upd_same (h3.mono g))
/-- G without what stands at a -/
def out (G : Hp) (a : Addr) : Hp := fun b => if b = a then none else G b
theorem out_ne {G : Hp} {a b : Addr} (h : b ≠ a) : out G a b = G b := if_neg h
theorem out_same {G : Hp} {a : Addr} : out G a a = none := if_pos rfl
section
variable {a : Addr} {od : Obj} {w : HO} (hw : G a = some (.frz od (.frz od w)))
include hw
theorem out_at {b : Addr} {u : HO} (e : G b = some u) (h : ∀ o o' x, u ≠ .frz o (.frz o' x)) : out G a b = some u := by
  rw [out_ne fun z => by
    rw [z, hw] at e
    cases e
    exact h _ _ _ rfl]
  exact e
theorem out_rd {b : Addr} {u : HO} (e : Rd G b u) (h : ∀ o o' x, u ≠ .frz o (.frz o' x)) (h2 : ∀ o x, u ≠ .frz o x) : Rd (out G a) b u := by
  rcases e with e | ⟨o, e⟩
  · exact .inl (out_at hw e h)
  · exact .inr ⟨o, out_at hw e fun o o' x z => by cases z; exact h2 _ _ rfl⟩
mutual
theorem RepD.outk : ∀ {v : V} {d : D}, RepD T ι G v d → RepD T ι (out G a) v d
  | _, _, .non => .non
  | _, _, .bl b => .bl b
  | _, _, .int b => .int b
  | _, _, .str b => .str b
  | _, _, .tup e r => .tup (out_at hw e (by simp)) r.outk
  | _, _, .wtup e r => .wtup (e.elim (fun z => .inl (out_rd hw z (by simp) (by simp))) .inr) r.outk
  | _, _, .lst e r => .lst (out_rd hw e (by simp) (by simp)) r.outk
  | _, _, .dicK e r => .dicK (out_at hw e (by simp)) r.outk
  | _, _, .dicT e r => .dicT (out_at hw e (by simp)) r.outk
  | _, _, .ins e r => .ins (out_at hw e (by simp)) r.outk
  | _, _, .cell e => .cell e
theorem RepL.outk : ∀ {v : List V} {d : List D}, RepL T ι G v d → RepL T ι (out G a) v d
  | _, _, .nil => .nil
  | _, _, .cons h r => .cons h.outk r.outk
theorem RepK.outk : ∀ {v : List (Key × V)} {d : List (D × D)}, RepK T ι G v d → RepK T ι (out G a) v d
  | _, _, .nil => .nil
  | _, _, .cons hk h r => .cons hk h.outk r.outk
theorem RepT.outk : ∀ {v : List (List Key × V)} {d : List (D × D)}, RepT T ι G v d → RepT T ι (out G a) v d
  | _, _, .nil => .nil
  | _, _, .cons hk h r => .cons hk h.outk r.outk
theorem RepF.outk : ∀ {v : List (Str × V)} {d : List (Nat × D)}, RepF T ι G v d → RepF T ι (out G a) v d
  | _, _, .nil => .nil
  | _, _, .cons h r => .cons h.outk r.outk
end
end
theorem RelS.outk {a : Addr} {od : Obj} {w : HO} (hw : G a = some (.frz od (.frz od w))) (r : RelS T ι G env σ) : RelS T ι (out G a) env σ := ⟨r.len, fun i d e => by
  obtain ⟨v, h1, h2⟩ := r.at_ i d e
  exact ⟨v, h1, h2.outk hw⟩⟩
/-- what was locked is free again: (ι0, G0) what was before -/
theorem RelH.unlock {ι0 : List Addr} {G0 H0 : Hp} {μ0 : Store} (r0 : RelH T ι0 G0 μ0 H0) {i : Nat} {t : Bool} {kvs : List (D × D)} {a : Addr} {u : HO} {od : Obj} (hc : μ0[i]? = some (.dic t kvs)) (ha : ι0[i]? = some a) (hu : H0 a = some u)
    (g : Grow ι0 ι (upd G0 a (.frz od (.frz od u))) G) (r : RelH T ι G μ H) : H a = some (.frz od u) ∧ Grow ι0 ι G0 (out G a) ∧ RelH T ι (out G a) (μ.set i (.dic t kvs)) (upd H a u) := by
  have hw : G a = some (.frz od (.frz od u)) := g.ex _ _ upd_same
  have g0 : Grow ι0 ι G0 (out G a) := ⟨g.ix, fun b w e => by
    have q : b ≠ a := fun z => by
      rw [z, (r0.cel i a _ ha hc).free rfl] at e
      cases e
    rw [out_ne q]
    exact g.ex b w (by rw [upd_ne q]; exact e)⟩
  have ha' : ι[i]? = some a := g.ix _ _ ha
  refine ⟨r.fz.at_ _ _ hw, g0, ⟨fun b w e => ?_⟩, by rw [List.length_set]; exact r.len, r.nd, fun b hb => ?_, fun j b d f1 f2 => ?_⟩
  · have q : b ≠ a := fun z => by
      rw [z, out_same] at e
      cases e
    rw [out_ne q] at e
    rw [upd_ne q]
    exact r.fz.at_ b w e
  · by_cases q : b = a
    · rw [q, upd_same]; simp
    · rw [upd_ne q]; exact r.trk b hb
  · by_cases hj : i = j
    · subst hj
      have hl : i < μ.length := by rw [← r.len]; exact (List.getElem?_eq_some_iff.mp ha').1
      rw [List.getElem?_set_self hl] at f2
      cases f2
      rw [ha'] at f1
      cases f1
      cases r0.cel i a _ ha hc with
      | dicK h1 h2 h3 =>
        rw [hu] at h2
        cases h2
        exact .dicK out_same upd_same (h3.mono g0)
      | dicT h1 h2 h3 =>
        rw [hu] at h2
        cases h2
        exact .dicT out_same upd_same (h3.mono g0)
    · rw [List.getElem?_set_ne hj] at f2
      have q : b ≠ a := fun z => hj (nodup_get r.nd ha' (z ▸ f1))
      cases r.cel j b d f1 f2 with
      | dead => exact .dead
      | lst h1 h2 h3 => exact .lst (by rw [out_ne q]; exact h1) (by rw [upd_ne q]; exact h2) (h3.outk hw)
      | dicK h1 h2 h3 => exact .dicK (by rw [out_ne q]; exact h1) (by rw [upd_ne q]; exact h2) (h3.outk hw)
      | dicT h1 h2 h3 => exact .dicT (by rw [out_ne q]; exact h1) (by rw [upd_ne q]; exact h2) (h3.outk hw)
      | ins h1 h2 h3 => exact .ins (by rw [out_ne q]; exact h1) (by rw [upd_ne q]; exact h2) (h3.outk hw)
      | ldicK h1 h2 h3 => exact .ldicK (by rw [out_ne q]; exact h1) (by rw [upd_ne q]; exact h2) (h3.outk hw)
      | ldicT h1 h2 h3 => exact .ldicT (by rw [out_ne q]; exact h1) (by rw [upd_ne q]; exact h2) (h3.outk hw)
/-- the cells behind n go -/
theorem keeps_at : ∀ {n : Nat} {μ μ' : Store} {i : Nat} {c' : Cell}, keeps n μ μ' = true → i < μ.length → μ'[i]? = some c' → μ[i]? = some c' ∨ c'.lt n = true
  | _, [], _, _, _, _, h, _ => by simp at h
  | _, c :: r, [], _, _, h, _, _ => by cases h
  | n, c :: r, d :: s, i, c', h, hi, e => by
    have h' : ((decide (d = c) || d.lt n) && keeps n r s) = true := h
    rw [Bool.and_eq_true, Bool.or_eq_true, decide_eq_true_eq] at h'
    cases i with
    | zero =>
      simp at e
      subst e
      rcases h'.1 with z | z
      · exact .inl (by simp [z])
      · exact .inr z
    | succ i => exact keeps_at (i := i) h'.2 (by simpa using hi) (by simpa using e)
theorem CellAt.back {n : Nat} {a : Addr} {c : Cell} (h : CellAt T ι G H a c) (e : c.lt n = true) : CellAt T (ι.take n) G H a c := by
  cases h with
  | dead => exact .dead
  | lst h1 h2 h3 => exact .lst h1 h2 (h3.back e)
  | dicK h1 h2 h3 => exact .dicK h1 h2 (h3.back e)
  | dicT h1 h2 h3 => exact .dicT h1 h2 (h3.back e)
  | ins h1 h2 h3 => exact .ins h1 h2 (h3.back e)
  | ldicK h1 h2 h3 => exact .ldicK h1 h2 (h3.back e)
  | ldicT h1 h2 h3 => exact .ldicT h1 h2 (h3.back e)
mutual
theorem RepD.ltn : ∀ {v : V} {d : D}, RepD T ι G v d → d.lt ι.length = true
  | _, _, .non => rfl
  | _, _, .bl b => rfl
  | _, _, .int b => rfl
  | _, _, .str b => rfl
  | _, _, .tup e r => by rw [lt_tup]; exact r.ltn
  | _, _, .wtup e r => by unfold D.lt; exact r.ltn
  | _, _, .lst e r => by rw [lt_lst]; exact r.ltn
  | _, _, .dicK e r => by rw [lt_dic]; exact r.ltn
  | _, _, .dicT e r => by rw [lt_dic]; exact r.ltn
  | _, _, .ins e r => by rw [lt_ins]; exact r.ltn
  | _, _, .cell e => by rw [lt_cell]; exact decide_eq_true (List.getElem?_eq_some_iff.mp e).1
theorem RepL.ltn : ∀ {v : List V} {d : List D}, RepL T ι G v d → D.lts ι.length d = true
  | _, _, .nil => rfl
  | _, _, .cons h r => by rw [lts_cons, h.ltn, r.ltn]; rfl
theorem RepK.ltn : ∀ {v : List (Key × V)} {d : List (D × D)}, RepK T ι G v d → D.ltp ι.length d = true
  | _, _, .nil => rfl
  | _, _, .cons (k := k) _ h r => by rw [ltp_cons, h.ltn, r.ltn]; cases k <;> rfl
theorem RepT.ltn : ∀ {v : List (List Key × V)} {d : List (D × D)}, RepT T ι G v d → D.ltp ι.length d = true
  | _, _, .nil => rfl
  | _, _, .cons (k := k) _ h r => by
    have e : ∀ n, ∀ l : List Key, D.lts n (l.map kD) = true := fun n l => lts_map n kD l fun x _ => by cases x <;> rfl
    rw [ltp_cons, h.ltn, r.ltn]
    show (D.lt _ (.tup _) && true && true) = true
    rw [lt_tup, e]
    rfl
theorem RepF.ltn : ∀ {v : List (Str × V)} {d : List (Nat × D)}, RepF T ι G v d → D.ltf ι.length d = true
  | _, _, .nil => rfl
  | _, _, .cons h r => by rw [ltf_cons, h.ltn, r.ltn]; rfl
end
theorem CellAt.ltn {a : Addr} {c : Cell} (h : CellAt T ι G H a c) : c.lt ι.length = true := by
  cases h with
  | dead => rfl
  | lst h1 h2 h3 => exact h3.ltn
  | dicK h1 h2 h3 => exact h3.ltn
  | dicT h1 h2 h3 => exact h3.ltn
  | ins h1 h2 h3 => exact h3.ltn
  | ldicK h1 h2 h3 => exact h3.ltn
  | ldicT h1 h2 h3 => exact h3.ltn
/-- .. told by the cells of before -/
theorem RelH.leave {ι0 : List Addr} {G0 H0 : Hp} {μ0 : Store} (r0 : RelH T ι0 G0 μ0 H0) (g : Grow ι0 ι G0 G) (r : RelH T ι G μ H) (h : keeps μ0.length μ0 μ = true) : Grow ι0 (ι.take μ0.length) G0 G ∧ RelH T (ι.take μ0.length) G (μ.take μ0.length) H := by
  have hix : ∀ i a, ι0[i]? = some a → (ι.take μ0.length)[i]? = some a := fun i a e => lt_back (by rw [← r0.len]; exact (List.getElem?_eq_some_iff.mp e).1) (g.ix i a e)
  refine ⟨⟨hix, g.ex⟩, r.fz, by rw [List.length_take, List.length_take, r.len], List.Sublist.nodup (List.take_sublist _ _) r.nd, fun a ha => r.trk a (List.mem_of_mem_take ha), fun i a c e1 e2 => ?_⟩
  rw [List.getElem?_take] at e1 e2
  split at e1
  · rename_i hi
    rw [if_pos hi] at e2
    have hca := r.cel i a c e1 e2
    rcases keeps_at h hi e2 with z | z
    · obtain ⟨b, hb⟩ : ∃ b, ι0[i]? = some b := ⟨_, List.getElem?_eq_getElem (by rw [r0.len]; exact hi)⟩
      have l := (r0.cel i b c hb z).ltn
      rw [r0.len] at l
      exact hca.back l
    · exact hca.back z
  · cases e1
theorem RelS.back {n : Nat} (r : RelS T ι G env σ) (h : (env.all fun o => match o with
    | some d => d.lt n
    | none => true) = true) : RelS T (ι.take n) G env σ := ⟨r.len, fun i d e => by
  obtain ⟨v, h1, h2⟩ := r.at_ i d e
  have := List.all_eq_true.mp h _ (List.mem_of_getElem? e)
  exact ⟨v, h1, h2.back this⟩⟩
/-! ### views -/
theorem RelH.lstOf (r : RelH T ι G μ H) {v : V} {d : D} {xs : List D} (h : RepD T ι G v d) (e : lstOf μ d = some xs) : ∃ a vs, v = .ref a ∧ Rd H a (.lst vs) ∧ RepL T ι G vs xs := by
  cases h with
  | lst h1 h2 =>
    cases e
    exact ⟨_, _, rfl, r.fz.rdl h1, h2⟩
  | cell hi =>
    rename_i a i
    unfold Co.lstOf at e
    simp only at e
    split at e
    · rename_i ys hc
      cases e
      cases r.cel i a _ hi hc with
      | lst h1 h2 h3 => exact ⟨a, _, rfl, .inl h2, h3⟩
    · cases e
  | _ => cases e
theorem RelH.seqOf (r : RelH T ι G μ H) {v : V} {d : D} {xs : List D} (h : RepD T ι G v d) (e : seqOf μ d = some xs) : ∃ a vs, v = .ref a ∧ (SqL T.K H a vs ∨ SqT T.K H a vs) ∧ RepL T ι G vs xs := by
  cases h with
  | tup h1 h2 =>
    cases e
    exact ⟨_, _, rfl, .inr (.inl (.inl (r.fz.tup h1))), h2⟩
  | wtup h1 h2 =>
    cases e
    exact ⟨_, _, rfl, .inr (r.fz.sqt h1), h2⟩
  | lst h1 h2 =>
    cases e
    exact ⟨_, _, rfl, .inl (.inl (r.fz.rdl h1)), h2⟩
  | cell hi =>
    have e' : Co.lstOf μ (.cell _) = some xs := e
    obtain ⟨a, vs, q1, q2, q3⟩ := r.lstOf (.cell hi) e'
    exact ⟨a, vs, q1, .inl (.inl q2), q3⟩
  | _ => cases e
theorem RelH.dicOf (r : RelH T ι G μ H) {v : V} {d : D} {t : Bool} {ds : List (D × D)} (h : RepD T ι G v d) (e : dicOf μ d = some (t, ds)) :
    ∃ a, v = .ref a ∧ ((t = false ∧ ∃ kvs, Rd H a (.dK kvs) ∧ RepK T ι G kvs ds) ∨ (t = true ∧ ∃ kvs, Rd H a (.dT kvs) ∧ RepT T ι G kvs ds)) := by
  cases h with
  | dicK h1 h2 =>
    cases e
    exact ⟨_, rfl, .inl ⟨rfl, _, .inr ⟨_, r.fz.dk h1⟩, h2⟩⟩
  | dicT h1 h2 =>
    cases e
    exact ⟨_, rfl, .inr ⟨rfl, _, .inr ⟨_, r.fz.dt h1⟩, h2⟩⟩
  | cell hi =>
    rename_i a i
    unfold Co.dicOf at e
    simp only at e
    split at e
    · rename_i t' ys hc
      cases e
      cases r.cel i a _ hi hc with
      | dicK h1 h2 h3 => exact ⟨a, rfl, .inl ⟨rfl, _, .inl h2, h3⟩⟩
      | dicT h1 h2 h3 => exact ⟨a, rfl, .inr ⟨rfl, _, .inl h2, h3⟩⟩
    · rename_i t' ys hc
      cases e
      cases r.cel i a _ hi hc with
      | ldicK h1 h2 h3 => exact ⟨a, rfl, .inl ⟨rfl, _, .inr ⟨_, h2⟩, h3⟩⟩
      | ldicT h1 h2 h3 => exact ⟨a, rfl, .inr ⟨rfl, _, .inr ⟨_, h2⟩, h3⟩⟩
    · cases e
  | _ => cases e
theorem RelH.insOf (r : RelH T ι G μ H) {v : V} {d : D} {c : Nat} {ds : List (Nat × D)} (h : RepD T ι G v d) (e : insOf μ d = some (c, ds)) :
    ∃ a dx vs, v = .ref a ∧ H a = some (.ins (T.cA c) dx vs) ∧ RepF T ι G vs ds := by
  cases h with
  | ins h1 h2 =>
    cases e
    exact ⟨_, _, _, rfl, r.fz.ins h1, h2⟩
  | cell hi =>
    rename_i a i
    unfold Co.insOf at e
    simp only at e
    split at e
    · rename_i t' ys hc
      cases e
      cases r.cel i a _ hi hc with
      | ins h1 h2 h3 => exact ⟨a, _, _, rfl, h2, h3⟩
    · cases e
  | _ => cases e
end
end Co

set_option linter.all false
set_option maxRecDepth 100000
set_option Elab.async false
/-! Co5: the small language's expressions against the readings. -/
namespace Co
open PySem L2
/-! ### judgements by data -/
section
variable {X : Cx}
theorem PE.dyn {e : Expr} {t' : TE} (h : ∀ σ H Q, t' σ H Q → ∃ t, PE X e t ∧ t σ H Q) : PE X e t' := ⟨fun pins s σ H Q I q => by
  obtain ⟨t, h1, h2⟩ := h σ H Q q
  exact h1.run pins s σ H Q I h2⟩
theorem PT.dyn {e : Expr} {t' : TT} (h : ∀ σ H Q, t' σ H Q → ∃ t, PT X e t ∧ t σ H Q) : PT X e t' := ⟨fun pins s σ H Q I q => by
  obtain ⟨t, h1, h2⟩ := h σ H Q q
  exact h1.run pins s σ H Q I h2⟩
theorem PA.dyn {e : List Expr} {t' : TA} (h : ∀ σ H Q, t' σ H Q → ∃ t, PA X e t ∧ t σ H Q) : PA X e t' := ⟨fun pos pins s σ H Q I q => by
  obtain ⟨t, h1, h2⟩ := h σ H Q q
  exact h1.run pos pins s σ H Q I h2⟩
theorem PS.dyn {e : Stmt} {t' : TS} (h : ∀ D σ H, t' D σ H → ∃ t, PS X e t ∧ t D σ H) : PS X e t' := ⟨fun pins s σ H D I q => by
  obtain ⟨t, h1, h2⟩ := h D σ H q
  exact h1.run pins s σ H D I h2⟩
theorem PSs.dyn {e : List Stmt} {t' : TS} (h : ∀ D σ H, t' D σ H → ∃ t, PSs X e t ∧ t D σ H) : PSs X e t' := ⟨fun pins s σ H D I q => by
  obtain ⟨t, h1, h2⟩ := h D σ H q
  exact h1.run pins s σ H D I h2⟩
end
/-! ### what is known of an end -/
def RepX (T : Nam) (ι : List Addr) (G H : Hp) (cls : Value) (dd : Option Addr) (x : Exn) : Prop :=
  cls = .ref (T.cA x.c) ∧ ((dd = none ∧ x.fs = []) ∨ ∃ d vs, dd = some d ∧ H d = some (.xd vs) ∧ RepF T ι G vs x.fs)
def GCt {α β : Type} (T : Nam) (R : List Addr → Hp → β → α → Prop) (W : WX) (σ : L2.St) (ι : List Addr) (G : Hp) (r : Res Exn α) (Q : β → Hp → Prop) : Prop := match r with
  | .ok d μ => ∀ (v : β) (ι' : List Addr) (G' H : Hp), Grow ι ι' G G' → RelH T ι' G' μ H → R ι' G' v d → Q v H
  | .ex x μ => ∀ (cls : Value) (dd : Option Addr) (ι' : List Addr) (G' H : Hp), Grow ι ι' G G' → RelH T ι' G' μ H → RepX T ι' G' H cls dd x → W cls dd σ H
  | .bad => False
abbrev Ct (T : Nam) := GCt T (RepD T)
abbrev CtA (T : Nam) := GCt T (RepL T)
section
variable {T : Nam} {W : WX} {σ : L2.St} {ι ι' : List Addr} {G G' : Hp} {α β α' β' : Type} {R : List Addr → Hp → β → α → Prop} {R' : List Addr → Hp → β' → α' → Prop} {Q : β → Hp → Prop} {Q' : β' → Hp → Prop}
theorem GCt.grow {r : Res Exn α} (h : GCt T R W σ ι G r Q) (g : Grow ι ι' G G') : GCt T R W σ ι' G' r Q := by
  cases r with
  | ok d μ => exact fun v ι2 G2 H g2 => h v ι2 G2 H (g.trans g2)
  | ex x μ => exact fun cls dd ι2 G2 H g2 => h cls dd ι2 G2 H (g.trans g2)
  | bad => exact h
theorem GCt.bind {r : Res Exn α'} {F : α' → Store → Res Exn α} (h : GCt T R W σ ι G (r.bind F) Q)
    (k : ∀ d μ v ι' G' H, r = .ok d μ → Grow ι ι' G G' → RelH T ι' G' μ H → R' ι' G' v d → GCt T R W σ ι' G' (F d μ) Q → Q' v H) : GCt T R' W σ ι G r Q' := by
  cases r with
  | ok d μ => exact fun v ι2 G2 H g r1 r2 => k d μ v ι2 G2 H rfl g r1 r2 (GCt.grow h g)
  | ex x μ => exact h
  | bad => exact h
theorem GCt.ok {r : Res Exn α} (h : GCt T R W σ ι G r Q) : r ≠ .bad := by
  intro e
  rw [e] at h
  exact h
theorem GCt.ofO {o : Option α} {μ : Store} (h : GCt T R W σ ι G (ofO o μ) Q) : ∃ a, o = some a ∧ GCt T R W σ ι G (.ok a μ) Q := by
  cases o with
  | none => exact h.elim
  | some a => exact ⟨a, rfl, h⟩
end
/-! ### names -/
structure Tx where
  fnm : List (Str × Nat)
  cnm : List (Str × Nat)
  gnm : List (Str × Nat)
  mnm : List Str
  fld : List Str
def visB (sc : Scope) (x : Str) : Bool := match sc.names.lookup x with
  | some .local => true
  | some .cell => true
  | some .free => true
  | _ => false
def glB (sc : Scope) (x : Str) : Bool := match sc.names.lookup x with
  | some .globalImplicit => true
  | _ => false
def dbgB (x : Str) : Bool := (x == ("__debug__" : Str)) || (x == ("__classdict__" : Str)) || (x == ("__name__" : Str))
/-- all that is fixed -/
structure Cq where
  P : Prog
  tx : Tx
  T : Nam
  fA : Nat → Addr
  call : Nat → List D → Store → RD
  k : Nat
  /-- each def's defaults -/
  dfl : List (List D)
def dV : D → V
  | .non => .non
  | .bl b => .bl b
  | .int i => .int i
  | .str x => .str x
  | _ => .non
def D.lit : D → Bool
  | .non => true
  | .bl _ => true
  | .int _ => true
  | .str x => x.cps.toList.all fun c => decide (c < 0x110000)
  | _ => false
theorem rep_lit {T : Nam} {ι : List Addr} {G : Hp} : ∀ {d : D}, d.lit = true → RepD T ι G (dV d) d
  | .non, _ => .non
  | .bl _, _ => .bl _
  | .int _, _ => .int _
  | .str x, h => .str fun c hc => of_decide_eq_true (List.all_eq_true.mp h c hc)
/-- a def's promise -/
def spC (T : Nam) (call : Nat → List D → Store → RD) (f : Nat) : Sp := fun vs H Q E => ∃ (ι : List Addr) (G : Hp) (μ : Store) (ds : List D), RelH T ι G μ H ∧ RepL T ι G vs ds ∧ Ct T (fun cls dd _ H => E cls dd H) [] ι G (call f ds μ) Q
def dflB (q : Cq) (f : Nat) (dv : List D) : Bool := let l := q.dfl.getD f []
  decide (l.drop (l.length - dv.length) = dv) && dv.all D.lit
structure FnI (q : Cq) (X : Cx) (f : Nat) : Prop where
  ex : ∃ (fd : FuncData) (ps : List Str), FnOk X.prog X.w X.K X.mg X.base (L2.CX X.prog X.w) q.k (q.fA f) fd ps (spC q.T q.call f) ∧ (∀ dv, dflB q f dv = true → ∃ ds, Vals (dv.map dV) ds ∧ Binds X.K fd ps ds) ∧ PySem.W.keepIn X.K (.ref (q.fA f)) = true
def mN (q : Cq) (m : Nat) : Str := q.tx.mnm.getD m ""
def blts : List Str := ["len", "str", "int", "list", "tuple", "dict", "set", "sorted", "sum", "abs", "min", "max", "divmod", "isinstance", "range", "enumerate", "zip", "reversed", "bool"]
def kdV (q : Cq) : Kd → Value
  | .own c => .ref (q.T.cA c)
  | .ty n => .type n
def tyV' (q : Cq) : Ty → Value
  | .own c => .ref (q.T.cA c)
  | t => .type (tyN t)
/-- the kinds of things told apart -/
def kdOk (q : Cq) : Kd → Bool
  | .own c => decide (c < q.P.sub.length)
  | .ty n => ["NoneType", "bool", "int", "str", "tuple", "list", "dict"].contains n
def tyOk (q : Cq) : Ty → Bool
  | .own c => decide (c < q.P.sub.length)
  | _ => true
structure Lk (q : Cq) (mg : Str → Option Value) : Prop where
  fn : ∀ x f, q.tx.fnm.lookup x = some f → mg x = some (.ref (q.fA f))
  kp : ∀ x f, q.tx.fnm.lookup x = some f → PySem.W.keepIn q.T.K (.ref (q.fA f)) = true
  kpc : ∀ x c, q.tx.cnm.lookup x = some c → PySem.W.keepIn q.T.K (.ref (q.T.cA c)) = true
  con : ∀ x j d, q.tx.gnm.lookup x = some j → q.P.consts[j]? = some d → ∃ v u, mg x = some u ∧ RelV v u ∧ ∀ ι G, RepD q.T ι G v d
  blt : ∀ x ∈ blts, mg x = none
  cls : ∀ x c, q.tx.cnm.lookup x = some c → mg x = some (.ref (q.T.cA c))
  inj : ∀ f g, q.T.fN f = q.T.fN g → f = g
  at_ : ∀ c f, fokB q.P.fok c f = true → Cls q.T.K (q.T.cA c) ∧ NoAttr q.T.K (q.T.cA c) (q.T.fN f)
  mth : ∀ c m f, (q.P.mth.getD c []).lookup m = some f → Cls q.T.K (q.T.cA c) ∧ Meth q.T.K (q.T.cA c) (mN q m) (q.fA f) ∧ ∀ g, mN q m ≠ q.T.fN g
  kit : ∀ (k : Kd) (t : Ty), kdOk q k = true → tyOk q t = true → PySem.W.kitOne q.T.K (kdV q k) (tyV' q t) = some (isiK q.P.sub k t)
  ity : ∀ c, kdOk q (.own c) = true → ∀ (H : Hp) (a dx : Addr) (fs : List (Str × V)), H a = some (.ins (q.T.cA c) dx fs) → TyOf q.T.K H (.ref a) (.ref (q.T.cA c))
  rdi : ∀ c f, q.P.init.getD c none = some f → PySem.W.readsIn q.T.K (q.T.cA c) (.type "type") = true ∧ PySem.W.specialIn q.T.K (.ref (q.T.cA c)) "__getattribute__" = some (some (.builtin "type.__getattribute__")) ∧
    PySem.W.findCls q.T.K (.ref (q.T.cA c)) (.type "type") "__init__" = some (.val (.ref (q.fA f))) ∧ PySem.W.keepIn q.T.K (.ref (q.fA f)) = true
  mak : ∀ c f, q.P.init.getD c none = some f → Mk q.T.K (q.T.cA c) (q.fA f)
structure XOk (q : Cq) (sc : Scope) (N : List Str) (W : WX) (X : Cx) : Prop where
  eK : X.K = q.T.K
  eS : X.env.scope = sc
  eN : X.N = N
  nd : N.Nodup
  calm : X.calm = true
  room : Room (q.k + 1) X.A
  tk : Takes X W
  lk : Lk q X.mg
  fns : ∀ f, (∃ ds μ, q.call f ds μ ≠ .bad) → FnI q X f
section
variable {q : Cq} {sc : Scope} {N : List Str} {W : WX} {X : Cx}
theorem XOk.hu (x : XOk q sc N W X) : X.A.units + 64 < cLine := x.room.units
theorem XOk.hu1 (x : XOk q sc N W X) : X.A.units + 1 < cLine := by have := x.room.units; omega
theorem XOk.vis (x : XOk q sc N W X) {y : Str} (h : visB sc y = true) : Vis X.env.scope y := by
  unfold visB at h
  unfold Vis
  rw [x.eS]
  split at h
  · exact .inl (by assumption)
  · exact .inr (.inl (by assumption))
  · exact .inr (.inr (by assumption))
  · cases h
theorem XOk.gl (x : XOk q sc N W X) {y : Str} (h : glB sc y = true) : Gl X y := by
  unfold glB at h
  show X.env.scope.names.lookup y = _
  rw [x.eS]
  split at h
  · assumption
  · cases h
end
theorem dbg1 {x : Str} (h : dbgB x = false) : (x == ("__debug__" : Str)) = false := by
  unfold dbgB at h
  simp only [Bool.or_eq_false_iff] at h
  exact h.1.1
theorem dbg2 {x : Str} (h : dbgB x = false) : (x == ("__classdict__" : Str)) = false := by
  unfold dbgB at h
  simp only [Bool.or_eq_false_iff] at h
  exact h.1.2
theorem dbg3 {x : Str} (h : dbgB x = false) : x ≠ ("__name__" : Str) := by
  unfold dbgB at h
  simp only [Bool.or_eq_false_iff] at h
  exact beq_eq_false_iff_ne.mp h.2
/-! ### readings told by the evaluator -/
def tE (q : Cq) (W : WX) (c : CE) : TE := fun σ H Q => ∃ (env : Env) (μ : Store) (ι : List Addr) (G : Hp), RelH q.T ι G μ H ∧ RelS q.T ι G env σ ∧ Ct q.T W σ ι G (evE q.P q.call c env μ) Q
def tA (q : Cq) (W : WX) (c : CE) : TA := fun σ H Q => ∃ (env : Env) (μ : Store) (ι : List Addr) (G : Hp), RelH q.T ι G μ H ∧ RelS q.T ι G env σ ∧ CtA q.T W σ ι G (evA q.P q.call c env μ) Q
/-- what a test comes to -/
def bOf (r : RD) : Res Exn Bool := r.bind fun d μ => ofO (truth μ d) μ
def RepB (_ : List Addr) (_ : Hp) (b c : Bool) : Prop := b = c
def tT (q : Cq) (W : WX) (c : CE) : TT := fun σ H Q => ∃ (env : Env) (μ : Store) (ι : List Addr) (G : Hp), RelH q.T ι G μ H ∧ RelS q.T ι G env σ ∧ GCt q.T RepB W σ ι G (bOf (evE q.P q.call c env μ)) Q
def tO (q : Cq) (W : WX) (c : CE) : TO := fun σ H Q => ∃ (env : Env) (μ : Store) (ι : List Addr) (G : Hp), RelH q.T ι G μ H ∧ RelS q.T ι G env σ ∧ GCt q.T (fun _ _ b c => b = c) W σ ι G ((evE q.P q.call c env μ).bind fun d μ => ofO (partOf d) μ) Q
/-! ### plain expressions -/
def plE : Expr → Bool
  | .BoolOp .. => true
  | .BinOp .. => true
  | .UnaryOp .. => true
  | .IfExp .. => true
  | .Compare .. => true
  | .Call .. => true
  | .Constant .. => true
  | .Attribute .. => true
  | .Subscript .. => true
  | .Name .. => true
  | .List .. => true
  | .Tuple .. => true
  | .Dict .. => true
  | .ListComp .. => true
  | .JoinedStr .. => true
  | _ => false
theorem pl_star {e : Expr} (h : plE e = true) (es : List Expr) (env : PySem.Env) : starEach (e :: es) env = (false, eval e env) :: starEach es env := by
  cases e <;> first | rfl | exact Bool.noConfusion h
theorem pl_any {pos : Pos} {env : PySem.Env} : ∀ {es : List Expr}, es.all plE = true → (backTo pos (starEach es env)).any (·.1) = false
  | [], _ => rfl
  | e :: es, h => by
    rw [List.all_cons, Bool.and_eq_true] at h
    have ih := pl_any (pos := pos) (env := env) h.2
    rw [pl_star h.1]
    unfold backTo at ih ⊢
    rw [List.map_cons, List.any_cons, ih]
    rfl
theorem pl_all {pos : Pos} {env : PySem.Env} {es : List Expr} (h : es.all plE = true) : (backTo pos (starEach es env)).all (fun x => !x.1) = true := by
  have e := pl_any (pos := pos) (env := env) h
  rw [List.all_eq_not_any_not]
  simp only [Bool.not_not]
  rw [e]
  rfl
theorem pl_mark {e : Expr} (h : plE e = true) (op : CmpOp) : behindInMarks op e = false := by
  cases e <;> first | rfl | exact Bool.noConfusion h
def isComp : Expr → Bool
  | .ListComp .. => true
  | _ => false
theorem pl_swap {e : Expr} (h : plE e = true) (h2 : isComp e = false) (t : Option Expr) (line : Nat) (env : PySem.Env) : swapsWith e t line env = pure false := by
  cases e <;> first | rfl | exact Bool.noConfusion h | exact Bool.noConfusion h2
theorem pl_fold {e : Expr} (h : plE e = true) (env : PySem.Env) (x : Value) : foldedSetIterable e env x = pure x := by
  cases e <;> first | rfl | exact Bool.noConfusion h
def noSup : Expr → Bool
  | .Call (.Name _ _) [] [] _ => false
  | _ => true
theorem att_base {o : Expr} (h : noSup o = true) (m : Str) (env : PySem.Env) (w : Sem Value) : attributeBase o m env w = w := by
  unfold attributeBase
  split
  · cases h
  · rfl
theorem pl_ix {e : Expr} (h : plE e = true) : PlainIx e := by
  intro o i
  cases e <;> first | rfl | exact Bool.noConfusion h
end Co

set_option linter.all false
set_option maxRecDepth 100000
set_option Elab.async false
/-! Co6: operators. -/
namespace Co
open PySem L2
variable {q : Cq} {sc : Scope} {N : List Str} {W : WX} {X : Cx}
/-! ### signs -/
theorem strK_add {a b : Str} (h : strK a) (g : strK b) : strK (a ++ b) := by
  intro c hc
  have e : (a ++ b).cps.toList = a.cps.toList ++ b.cps.toList := by
    show (a.cps ++ b.cps).toList = _
    simp
  rw [e, List.mem_append] at hc
  exact hc.elim (h c) (g c)
theorem strK_sub {a : Str} (h : strK a) {b : Str} (s : ∀ c ∈ b.cps.toList, c ∈ a.cps.toList) : strK b := fun c hc => h c (s c hc)
/-! ### two parts -/
/-- op on two values: what the reading R asks follows from what is told -/
def Op2 (q : Cq) (W : WX) (f : D → D → Store → RD) (R : R2) (d e : D) (μ : Store) : Prop :=
  ∀ (v y : V) (ι : List Addr) (G H : Hp) (σ : L2.St) (Q : VK), RelH q.T ι G μ H → RepD q.T ι G v d → RepD q.T ι G y e → Ct q.T W σ ι G (f d e μ) Q → R v y H Q
theorem two_ok {a b : CE} {e0 : Expr} {f : D → D → Store → RD} {t' : TE} (any : ∃ R, PE X e0 (tOp R (tE q W a) (tE q W b)))
    (op : ∀ d e μ, f d e μ ≠ .bad → ∃ R, PE X e0 (tOp R (tE q W a) (tE q W b)) ∧ Op2 q W f R d e μ)
    (h : ∀ σ H Q, t' σ H Q → ∃ (env : Env) (μ : Store) (ι : List Addr) (G : Hp), RelH q.T ι G μ H ∧ RelS q.T ι G env σ ∧ Ct q.T W σ ι G ((evE q.P q.call a env μ).bind fun d μ => (evE q.P q.call b env μ).bind fun e μ => f d e μ) Q) : PE X e0 t' := by
  refine PE.dyn fun σ H Q ht => ?_
  obtain ⟨env, μ, ι, G, R, S, c⟩ := h σ H Q ht
  have main : ∀ R2 : R2, (∀ d μ1 e μ2, evE q.P q.call a env μ = .ok d μ1 → evE q.P q.call b env μ1 = .ok e μ2 → Op2 q W f R2 d e μ2) → tOp R2 (tE q W a) (tE q W b) σ H Q := fun R2 hr =>
    ⟨env, μ, ι, G, R, S, GCt.bind c fun d μ1 v ι1 G1 H1 ea g1 r1 d1 c1 => ⟨env, μ1, ι1, G1, r1, S.mono g1, GCt.bind c1 fun e μ2 y ι2 G2 H2 eb g2 r2 d2 c2 => hr d μ1 e μ2 ea eb v y ι2 G2 H2 σ Q r2 (d1.mono g2) d2 c2⟩⟩
  cases ea : evE q.P q.call a env μ with
  | bad => rw [ea] at c; exact c.elim
  | ex x μ1 =>
    obtain ⟨R2, h2⟩ := any
    exact ⟨_, h2, main R2 fun d μ1 e μ2 z => by rw [ea] at z; cases z⟩
  | ok d μ1 => cases eb : evE q.P q.call b env μ1 with
    | bad => rw [ea, Res.bind_ok, eb] at c; exact c.elim
    | ex x μ2 =>
      obtain ⟨R2, h2⟩ := any
      exact ⟨_, h2, main R2 fun d' μ1' e μ2 z1 z2 => by rw [ea] at z1; cases z1; rw [eb] at z2; cases z2⟩
    | ok e μ2 =>
      rw [ea, Res.bind_ok, eb, Res.bind_ok] at c
      obtain ⟨R2, h2, h3⟩ := op d e μ2 c.ok
      exact ⟨_, h2, main R2 fun d' μ1' e' μ2' z1 z2 => by rw [ea] at z1; cases z1; rw [eb] at z2; cases z2; exact h3⟩
/-! ### arithmetic -/
def oBin : Operator → Option BinO
  | .Add => some .add
  | .Sub => some .sub
  | .Mult => some .mul
  | .Mod => some .mod
  | .FloorDiv => some .fdiv
  | .Pow => some .pow
  | _ => none
/-- a text so many times -/
def rMulS : R2 := fun x y H Q => ∃ i j, x = V.str i ∧ y = V.int j ∧ MulOk i j ∧ Q (.str (Txt.mul i j)) H
theorem op_mulS : OpR X (binaryOp .Mult) rMulS := by
  intro pins s σ H x y v u Q I rx ry h
  obtain ⟨i, j, rfl, rfl, hz, q⟩ := h
  obtain ⟨t, rfl⟩ := rx
  obtain ⟨t', rfl⟩ := ry
  exact SB.mul hz fun t' tk => ⟨.str (Txt.mul i j), H, I.tok _, ⟨_, rfl⟩, q⟩
theorem mulSB_ok {a : Str} {n : Int} (h : mulSB a n = true) : MulOk a n := by
  unfold mulSB at h
  have h := of_decide_eq_true h
  obtain ⟨h1, h2, h3⟩ := h
  refine ⟨?_, fun h4 h5 => ?_, fun h4 h5 => ?_⟩
  · rw [Bool.or_eq_false_iff]
    exact ⟨decide_eq_false (by omega), decide_eq_false (by omega)⟩
  · have : (1000000 : Int) ≤ (2 ^ 63 - 1) / n := by
      rw [Int.le_ediv_iff_mul_le (by omega)]
      have : (1000000 : Int) * n ≤ 1000000 * 1000000 := by omega
      omega
    omega
  · have hm : a.length * n.toNat ≤ 16 * 1000000 := Nat.mul_le_mul h3 (by omega)
    have hs : (16 * 1000000 : Nat) ≤ sizeLine := by decide
    unfold Builtin.Str.tooLong
    exact decide_eq_false (by omega)
theorem strK_mul {a : Str} (h : strK a) (n : Int) : strK (Txt.mul a n) := by
  have main : ∀ (m : Nat) (x : Array Nat), (∀ c ∈ x.toList, c < 0x110000) → ∀ c ∈ ((List.replicate m a.cps).foldl (· ++ ·) x).toList, c < 0x110000 := fun m => by
    induction m with
    | zero => exact fun x hx => hx
    | succ m ih =>
      intro x hx
      rw [List.replicate_succ, List.foldl_cons]
      refine ih _ fun c hc => ?_
      rw [Array.toList_append, List.mem_append] at hc
      exact hc.elim (hx c) (h c)
  unfold Txt.mul
  split
  · exact fun c hc => by cases hc
  · split
    · exact h
    · exact main _ _ fun c hc => by cases hc
/-- lists put together, any that may be read -/
def rCatR : R2 := fun x y H Q => ∃ l b xs zs, x = .ref l ∧ y = .ref b ∧ Rd H l (.lst xs) ∧ Rd H b (.lst zs) ∧ xs.length + zs.length ≤ sizeLine ∧ ∀ p, H p = none → Q (.ref p) (upd H p (.lst (xs ++ zs)))
theorem op_catR : OpR X (binaryOp .Add) rCatR := by
  intro pins s σ H x y v u Q I rx ry h
  obtain ⟨l, b, xs, zs, rfl, rfl, hH, hB, hz, q⟩ := h
  cases rx
  cases ry
  obtain ⟨z, its, n, r, e⟩ := hH.ok I.hok
  obtain ⟨z2, its2, n2, r2, e2⟩ := hB.ok I.hok
  refine PySem.P.add_list e e2 ?_ (by rw [List.size_toArray, List.size_toArray, ← r.length, ← r2.length]; omega)
  have ea : its.toArray ++ its2.toArray = (its ++ its2).toArray := by simp
  rw [ea]
  exact ⟨.ref _, _, I.lnew (t' := s.toks) (r.append r2) (by rw [List.length_append]; omega), rfl, q _ I.fresh⟩
theorem ct_val {T : Nam} {W : WX} {σ : L2.St} {ι : List Addr} {G H : Hp} {μ : Store} {d : D} {v : V} {Q : VK} (c : Ct T W σ ι G (.ok d μ) Q) (R : RelH T ι G μ H) (r : RepD T ι G v d) : Q v H := c v ι G H (Grow.refl ι G) R r
/-- .. a new frozen thing -/
theorem ct_new {T : Nam} {W : WX} {σ : L2.St} {ι : List Addr} {G H : Hp} {μ : Store} {d : D} {v : V} {Q : VK} (c : Ct T W σ ι G (.ok d μ) Q) (R : RelH T ι G μ H) {p : Addr} (o : HO) (h : H p = none) (r : ∀ G', Grow ι ι G G' → G' p = some o → RepD T ι G' v d) (ho : rl o = o := by rfl) : Q v (upd H p o) :=
  c v ι _ _ (Grow.frozen o (R.fz.free h)) (R.frozen o h ho) (r _ (Grow.frozen o (R.fz.free h)) upd_same)
theorem flip_len {n : Nat} (h : sz n = true) : n ≤ sizeLine := of_decide_eq_true h
theorem cat_case {d e : D} {μ : Store} (h : binS μ .add d e = match lstOf μ d, lstOf μ e with
      | some xs, some ys => if sz (xs.length + ys.length) then .ok (.lst (xs ++ ys)) μ else .bad
      | _, _ => .bad) (hb : binS μ .add d e ≠ .bad) : ∃ R : R2, OpR X (binaryOp .Add) R ∧ Op2 q W (fun d e μ => binS μ .add d e) R d e μ := by
  rw [h] at hb
  cases h1 : lstOf μ d with
  | none => rw [h1] at hb; exact absurd rfl hb
  | some xs => cases h2 : lstOf μ e with
    | none => rw [h1, h2] at hb; exact absurd rfl hb
    | some ys =>
      rw [h1, h2] at hb
      have hz : sz (xs.length + ys.length) = true := by
        cases h : sz (xs.length + ys.length) with
        | true => rfl
        | false => exact absurd (show (if sz (xs.length + ys.length) then _ else _) = _ by rw [h]; rfl) hb
      refine ⟨_, op_catR, fun v y ι G H σ Q R r1 r2 c => ?_⟩
      obtain ⟨a, vs, e1, e2, e3⟩ := R.lstOf r1 h1
      obtain ⟨b, ws, f1, f2, f3⟩ := R.lstOf r2 h2
      have c' : Ct q.T W σ ι G (binS μ .add d e) Q := c
      rw [h, h1, h2] at c'
      simp only at c'
      rw [if_pos hz] at c'
      exact ⟨a, b, vs, ws, e1, f1, e2, f2, by rw [e3.length, f3.length]; exact flip_len hz, fun p hp => ct_new c' R _ hp fun G' g z => .lst (.inl z) ((e3.append f3).mono g)⟩
theorem bin_op {o : BinO} {op : Operator} (ho : oBin op = some o) (d e : D) (μ : Store) (hb : binS μ o d e ≠ .bad) : ∃ R : R2, OpR X (binaryOp op) R ∧ Op2 q W (fun d e μ => binS μ o d e) R d e μ := by
  cases op <;> (simp only [oBin] at ho) <;> cases ho
  · -- add
    cases d with
    | int i => cases e with
      | int j => exact ⟨_, op_add, fun v y ι G H σ Q R r1 r2 c => by cases r1; cases r2; exact ⟨i, j, rfl, rfl, ct_val c R (.int _)⟩⟩
      | _ => exact absurd rfl hb
    | str a => cases e with
      | str b =>
        have hz : sz (a.length + b.length) = true := by
          cases h : sz (a.length + b.length) with
          | true => rfl
          | false => exact absurd (show (if sz (a.length + b.length) then _ else _) = _ by rw [h]; rfl) hb
        refine ⟨_, op_add_str, fun v y ι G H σ Q R r1 r2 c => ?_⟩
        cases r1 with
        | str k1 => cases r2 with
          | str k2 =>
            have c' : Ct q.T W σ ι G (if sz (a.length + b.length) then .ok (.str (a ++ b)) μ else .bad) Q := c
            rw [if_pos hz] at c'
            exact ⟨a, b, rfl, rfl, flip_len hz, ct_val c' R (.str (strK_add k1 k2))⟩
      | _ => exact absurd rfl hb
    | tup xs => cases e with
      | tup ys =>
        have hz : sz (xs.length + ys.length) = true := by
          cases h : sz (xs.length + ys.length) with
          | true => rfl
          | false => exact absurd (show (if sz (xs.length + ys.length) then _ else _) = _ by rw [h]; rfl) hb
        refine ⟨_, op_catA, fun v y ι G H σ Q R r1 r2 c => ?_⟩
        cases r1 with
        | tup g1 l1 => cases r2 with
          | tup g2 l2 =>
            rename_i a vs b ws
            have c' : Ct q.T W σ ι G (if sz (xs.length + ys.length) then .ok (.tup (xs ++ ys)) μ else .bad) Q := c
            rw [if_pos hz] at c'
            have n1 := l1.length
            have n2 := l2.length
            refine ⟨a, b, vs, ws, rfl, rfl, .inl (.inl (R.fz.tup g1)), .inl (.inl (R.fz.tup g2)), by rw [n1, n2]; exact flip_len hz, fun z => ?_, fun _ z => ?_, fun _ _ p hp => ct_new c' R _ hp fun G' g e => .tup e ((l1.append l2).mono g)⟩
            · subst z
              obtain rfl : xs = [] := List.length_eq_zero_iff.mp n1.symm
              exact ct_val c' R (.tup g2 l2)
            · subst z
              obtain rfl : ys = [] := List.length_eq_zero_iff.mp n2.symm
              exact ct_val c' R (.tup g1 (by rw [List.append_nil]; exact l1))
      | _ => exact absurd rfl hb
    | lst xs => exact cat_case rfl hb
    | cell i => exact cat_case rfl hb
    | _ => exact absurd rfl hb
  · -- sub
    cases d with
    | int i => cases e with
      | int j => exact ⟨_, op_sub, fun v y ι G H σ Q R r1 r2 c => by cases r1; cases r2; exact ⟨i, j, rfl, rfl, ct_val c R (.int _)⟩⟩
      | _ => exact absurd rfl hb
    | _ => exact absurd rfl hb
  · -- mul
    cases d with
    | int i => cases e with
      | int j =>
        have hz : mulB i j = true := by
          cases h : mulB i j with
          | true => rfl
          | false => exact absurd (show (if mulB i j then _ else _) = _ by rw [h]; rfl) hb
        refine ⟨_, op_mulW, fun v y ι G H σ Q R r1 r2 c => ?_⟩
        have c : Ct q.T W σ ι G (binS μ .mul (.int i) (.int j)) Q := c
        rw [binS_mul μ i j hz] at c
        cases r1
        cases r2
        exact ⟨i, j, rfl, rfl, of_decide_eq_true (p := i.natAbs.log2 + j.natAbs.log2 < 1000000) hz, ct_val c R (.int _)⟩
      | _ => exact absurd rfl hb
    | str a => cases e with
      | int j =>
        have hz : mulSB a j = true := by
          cases h : mulSB a j with
          | true => rfl
          | false => exact absurd (show (if mulSB a j then _ else _) = _ by rw [h]; rfl) hb
        refine ⟨_, op_mulS, fun v y ι G H σ Q R r1 r2 c => ?_⟩
        have c : Ct q.T W σ ι G (if mulSB a j then .ok (.str (Txt.mul a j)) μ else .bad) Q := c
        rw [if_pos hz] at c
        cases r1 with
        | str k1 => cases r2; exact ⟨a, j, rfl, rfl, mulSB_ok hz, ct_val c R (.str (strK_mul k1 j))⟩
      | _ => exact absurd rfl hb
    | _ => exact absurd rfl hb
  · -- mod
    cases d with
    | int i => cases e with
      | int j =>
        have hz : 0 < j := by
          by_cases h : 0 < j
          · exact h
          · exact absurd (show (if decide (0 < j) then _ else _) = _ by rw [decide_eq_false h]; rfl) hb
        refine ⟨_, op_mod, fun v y ι G H σ Q R r1 r2 c => ?_⟩
        have c : Ct q.T W σ ι G (binS μ .mod (.int i) (.int j)) Q := c
        rw [binS_mod μ i j hz] at c
        cases r1
        cases r2
        exact ⟨i, j, rfl, rfl, hz, ct_val c R (.int _)⟩
      | _ => exact absurd rfl hb
    | _ => exact absurd rfl hb
  · -- pow
    cases d with
    | int i => cases e with
      | int j =>
        have hz : powB i j = true := by
          cases h : powB i j with
          | true => rfl
          | false => exact absurd (show (if powB i j then _ else _) = _ by rw [h]; rfl) hb
        refine ⟨_, op_pow, fun v y ι G H σ Q R r1 r2 c => ?_⟩
        have c : Ct q.T W σ ι G (binS μ .pow (.int i) (.int j)) Q := c
        rw [binS_pow μ i j hz] at c
        cases r1
        cases r2
        exact ⟨i, j, rfl, rfl, of_decide_eq_true (p := 0 ≤ j ∧ j ≤ 1000000 ∧ i.natAbs < 2 ^ 64) hz, ct_val c R (.int _)⟩
      | _ => exact absurd rfl hb
    | _ => exact absurd rfl hb
  · -- fdiv
    cases d with
    | int i => cases e with
      | int j =>
        have hz : divB j = true := by
          cases h : divB j with
          | true => rfl
          | false => exact absurd (show (if divB j then _ else _) = _ by rw [h]; rfl) hb
        refine ⟨_, op_fdivW, fun v y ι G H σ Q R r1 r2 c => ?_⟩
        have c : Ct q.T W σ ι G (binS μ .fdiv (.int i) (.int j)) Q := c
        rw [binS_fdiv μ i j hz] at c
        cases r1
        cases r2
        exact ⟨i, j, rfl, rfl, of_decide_eq_true (p := 0 < j ∧ j.natAbs.log2 < 9000) hz, ct_val c R (.int _)⟩
      | _ => exact absurd rfl hb
    | _ => exact absurd rfl hb
/-! ### data, equality -/
mutual
def toPy : D → PyData
  | .non => .none
  | .bl b => .bool b
  | .int i => .int i
  | .str x => .str x
  | .tup xs => .tuple (toPys xs)
  | .wtup xs => .tuple (toPys xs)
  | .lst xs => .list (toPys xs)
  | .dic _ _ => .none
  | .ins _ _ => .none
  | .cell _ => .none
termination_by structural x => x
def toPys : List D → List PyData
  | [] => []
  | x :: r => toPy x :: toPys r
termination_by structural x => x
end
theorem strK_ok {x : Str} (h : strK x) : PyData.strOk x = true := by
  unfold PyData.strOk
  rw [← Array.all_toList]
  exact List.all_eq_true.mpr fun c hc => decide_eq_true (h c hc)
mutual
theorem dp_of {T : Nam} {ι : List Addr} {G H : Hp} (f : Fz G H) : ∀ {n : Nat} {v : V} {d : D}, RepD T ι G v d → d.dat n = true → Dp T.K H v (toPy d) ∧ (toPy d).canLay0 = true ∧ (toPy d).depth ≤ n
  | _, _, _, .non, _ => ⟨.non, rfl, Nat.zero_le _⟩
  | _, _, _, .bl b, _ => ⟨.bl b, rfl, Nat.zero_le _⟩
  | _, _, _, .int b, _ => ⟨.int b, rfl, Nat.zero_le _⟩
  | _, _, _, .str k, _ => ⟨.str _, by unfold toPy PyData.canLay0; exact strK_ok k, Nat.zero_le _⟩
  | n, _, _, .tup e r, h => by
    cases n with
    | zero => unfold D.dat at h; cases h
    | succ n =>
      obtain ⟨a, b, c⟩ := dps_of f (n := n) r (by unfold D.dat at h; exact h)
      refine ⟨?_, ?_, ?_⟩
      · unfold toPy; exact .tup (.inl (.inl (f.tup e))) a
      · unfold toPy PyData.canLay0; exact b
      · unfold toPy PyData.depth; omega
  | n, _, _, .wtup e r, h => by
    cases n with
    | zero => unfold D.dat at h; cases h
    | succ n =>
      obtain ⟨a, b, c⟩ := dps_of f (n := n) r (by unfold D.dat at h; exact h)
      refine ⟨?_, ?_, ?_⟩
      · unfold toPy; exact .tup (f.sqt e) a
      · unfold toPy PyData.canLay0; exact b
      · unfold toPy PyData.depth; omega
  | n, _, _, .lst e r, h => by
    cases n with
    | zero => unfold D.dat at h; cases h
    | succ n =>
      obtain ⟨a, b, c⟩ := dps_of f (n := n) r (by unfold D.dat at h; exact h)
      refine ⟨?_, ?_, ?_⟩
      · unfold toPy; exact .lst (.inl (f.rdl e)) a
      · unfold toPy PyData.canLay0; exact b
      · unfold toPy PyData.depth; omega
  | _, _, _, .dicK e r, h => by unfold D.dat at h; cases h
  | _, _, _, .dicT e r, h => by unfold D.dat at h; cases h
  | _, _, _, .ins e r, h => by unfold D.dat at h; cases h
  | _, _, _, .cell e, h => by unfold D.dat at h; cases h
theorem dps_of {T : Nam} {ι : List Addr} {G H : Hp} (f : Fz G H) : ∀ {n : Nat} {v : List V} {d : List D}, RepL T ι G v d → D.dats n d = true → DpAll T.K H v (toPys d) ∧ PyData.canLayAll0 (toPys d) = true ∧ PyData.depthAll (toPys d) ≤ n
  | _, _, _, .nil, _ => ⟨.nil, rfl, Nat.zero_le _⟩
  | n, _, _, .cons h r, e => by
    unfold D.dats at e
    rw [Bool.and_eq_true] at e
    obtain ⟨a, b, c⟩ := dp_of f h e.1
    obtain ⟨a2, b2, c2⟩ := dps_of f r e.2
    refine ⟨?_, ?_, ?_⟩
    · unfold toPys; exact .cons a a2
    · unfold toPys PyData.canLayAll0; rw [b, b2]; rfl
    · unfold toPys PyData.depthAll; omega
end
mutual
theorem eqv_py : ∀ {n m : Nat} (d e : D), d.dat n = true → e.dat m = true → PyData.eqv (toPy d) (toPy e) = d.eqv e
  | _, _, .non, e, _, h => by cases e <;> first | rfl | (unfold D.dat at h; cases h)
  | _, _, .bl b, e, _, h => by cases e <;> first | rfl | (unfold D.dat at h; cases h)
  | _, _, .int b, e, _, h => by cases e <;> first | rfl | (unfold D.dat at h; cases h)
  | _, _, .str b, e, _, h => by
    cases e with
    | str y => show (b == y) = decide (b = y); by_cases q : b = y <;> simp [q]
    | _ => first | rfl | (unfold D.dat at h; cases h)
  | n, m, .tup xs, e, g, h => by
    cases n with
    | zero => unfold D.dat at g; cases g
    | succ n =>
      cases e with
      | tup ys => cases m with
        | zero => unfold D.dat at h; cases h
        | succ m => exact eqvs_py xs ys (by unfold D.dat at g; exact g) (by unfold D.dat at h; exact h)
      | wtup ys => cases m with
        | zero => unfold D.dat at h; cases h
        | succ m => exact eqvs_py xs ys (by unfold D.dat at g; exact g) (by unfold D.dat at h; exact h)
      | _ => first | rfl | (unfold D.dat at h; cases h)
  | n, m, .wtup xs, e, g, h => by
    cases n with
    | zero => unfold D.dat at g; cases g
    | succ n =>
      cases e with
      | tup ys => cases m with
        | zero => unfold D.dat at h; cases h
        | succ m => exact eqvs_py xs ys (by unfold D.dat at g; exact g) (by unfold D.dat at h; exact h)
      | wtup ys => cases m with
        | zero => unfold D.dat at h; cases h
        | succ m => exact eqvs_py xs ys (by unfold D.dat at g; exact g) (by unfold D.dat at h; exact h)
      | _ => first | rfl | (unfold D.dat at h; cases h)
  | n, m, .lst xs, e, g, h => by
    cases n with
    | zero => unfold D.dat at g; cases g
    | succ n =>
      cases e with
      | lst ys => cases m with
        | zero => unfold D.dat at h; cases h
        | succ m => exact eqvs_py xs ys (by unfold D.dat at g; exact g) (by unfold D.dat at h; exact h)
      | _ => first | rfl | (unfold D.dat at h; cases h)
  | _, _, .dic _ _, e, h, _ => by unfold D.dat at h; cases h
  | _, _, .ins _ _, e, h, _ => by unfold D.dat at h; cases h
  | _, _, .cell _, e, h, _ => by unfold D.dat at h; cases h
theorem eqvs_py : ∀ {n m : Nat} (d e : List D), D.dats n d = true → D.dats m e = true → PyData.eqvAll (toPys d) (toPys e) = D.eqvs d e
  | _, _, [], e, _, _ => by cases e <;> rfl
  | n, m, x :: r, e, g, h => by
    cases e with
    | nil => rfl
    | cons y s =>
      unfold D.dats at g h
      rw [Bool.and_eq_true] at g h
      have h1 := eqv_py x y g.1 h.1
      have h2 := eqvs_py r s g.2 h.2
      show (PyData.eqv (toPy x) (toPy y) && PyData.eqvAll (toPys r) (toPys s)) = (x.eqv y && D.eqvs r s)
      rw [h1, h2]
end
theorem shaped_of {d : PyData} {n : Nat} (h : d.canLay0 = true) (k : d.depth ≤ n) (hn : n ≤ 64) : SeqAt.shaped d = true := by
  unfold SeqAt.shaped
  rw [h, Bool.true_and]
  exact decide_eq_true (Nat.le_trans k hn)
/-- a value as data, a cell's content too -/
theorem dp_still {T : Nam} {ι : List Addr} {G H : Hp} {μ : Store} (R : RelH T ι G μ H) {v : V} {d e : D} (r : RepD T ι G v d) (h : still μ d = some e) {n : Nat} (hd : e.dat n = true) : Dp T.K H v (toPy e) ∧ (toPy e).canLay0 = true ∧ (toPy e).depth ≤ n := by
  cases r with
  | cell hi =>
    rename_i a i
    cases hc : μ[i]? with
    | none => simp only [still, hc] at h; cases h
    | some c =>
      have hca := R.cel i a c hi hc
      cases hca with
      | dead => simp only [still, hc] at h; cases h
      | lst h1 h2 h3 =>
        simp only [still, hc] at h
        cases h
        cases n with
        | zero => unfold D.dat at hd; cases hd
        | succ n =>
          obtain ⟨a, b, c⟩ := dps_of R.fz (n := n) h3 (by unfold D.dat at hd; exact hd)
          refine ⟨?_, ?_, ?_⟩
          · unfold toPy; exact .lst (.inl (.inl h2)) a
          · unfold toPy PyData.canLay0; exact b
          · unfold toPy PyData.depth; omega
      | dicK h1 h2 h3 => simp only [still, hc] at h; cases h; unfold D.dat at hd; cases hd
      | dicT h1 h2 h3 => simp only [still, hc] at h; cases h; unfold D.dat at hd; cases hd
      | ldicK h1 h2 h3 => simp only [still, hc] at h; cases h
      | ldicT h1 h2 h3 => simp only [still, hc] at h; cases h
      | ins h1 h2 h3 => simp only [still, hc] at h; cases h; unfold D.dat at hd; cases hd
  | non => cases h; exact dp_of (ι := ι) R.fz .non hd
  | bl b => cases h; exact dp_of (ι := ι) R.fz (.bl b) hd
  | int b => cases h; exact dp_of (ι := ι) R.fz (.int b) hd
  | str b => cases h; exact dp_of (ι := ι) R.fz (.str b) hd
  | tup a b => cases h; exact dp_of R.fz (.tup a b) hd
  | wtup a b => cases h; exact dp_of R.fz (.wtup a b) hd
  | lst a b => cases h; exact dp_of R.fz (.lst a b) hd
  | dicK a b => cases h; exact dp_of R.fz (.dicK a b) hd
  | dicT a b => cases h; exact dp_of R.fz (.dicT a b) hd
  | ins a b => cases h; exact dp_of R.fz (.ins a b) hd
theorem eqS_inv {μ : Store} {d e : D} {b : Bool} (h : eqS μ d e = some b) : ∃ d' e', still μ d = some d' ∧ still μ e = some e' ∧ d'.dat 60 = true ∧ e'.dat 60 = true ∧ b = d'.eqv e' := by
  unfold eqS at h
  cases h1 : still μ d with
  | none => rw [h1] at h; cases h
  | some d' => cases h2 : still μ e with
    | none => rw [h1, h2] at h; cases h
    | some e' =>
      rw [h1, h2] at h
      simp only at h
      split at h
      · rename_i hd
        rw [Bool.and_eq_true] at hd
        cases h
        exact ⟨d', e', rfl, rfl, hd.1, hd.2, rfl⟩
      · cases h
end Co

set_option linter.all false
set_option maxRecDepth 100000
set_option Elab.async false
/-! Co7: comparisons. -/
namespace Co
open PySem L2
variable {q : Cq} {sc : Scope} {N : List Str} {W : WX} {X : Cx}
def oCmp : CmpOp → Option CmpO
  | .Lt => some .lt
  | .LtE => some .le
  | .Gt => some .gt
  | .GtE => some .ge
  | .Eq => some .eq
  | .NotEq => some .ne
  | .In => some .isin
  | .NotIn => some .notin
  | .Is => some .is
  | .IsNot => some .isnt
/-- a rule for a comparison, as a value and as a test; two in a chain are rules of operators -/
def CmpX (X : Cx) (op : CmpOp) (a b : Expr) (R : R2) : Prop := ∀ ta tb pos, PE X a ta → PE X b tb → plE b = true → PE X (.Compare a [op] [b] pos) (tOp R ta tb) ∧ PT X (.Compare a [op] [b] pos) (tTest (tOp R ta tb))
theorem cmpx_op {op : CmpOp} {R : R2} (h : OpR X (compareOp op) R) (a b : Expr) : CmpX X op a b R := fun ta tb pos ha hb hp =>
  ⟨pe_cmpR h ha hb (pl_mark hp op), pt_cmpR h ha hb (pl_mark hp op)⟩
/-- what a rule of a comparison is worth -/
def Cmp2 (q : Cq) (μ : Store) (R : R2) (d e : D) (b : Bool) : Prop := ∀ (v y : V) (ι : List Addr) (G H : Hp) (Q : VK), RelH q.T ι G μ H → RepD q.T ι G v d → RepD q.T ι G y e → Q (.bl b) H → R v y H Q
theorem key_at {T : Nam} {ι : List Addr} {G H : Hp} {μ : Store} (R : RelH T ι G μ H) {v y : V} {d e : D} {t : Bool} {ds : List (D × D)} (r : RepD T ι G v d) (r2 : RepD T ι G y e) (h : dicOf μ d = some (t, ds)) (hk : keyB t e = true) :
    ∃ a o, v = .ref a ∧ DGet H a y o ∧ (match kfind ds e with
      | some x => ∃ u, o = some u ∧ RepD T ι G u x
      | none => o = none) := by
  obtain ⟨a, rfl, ⟨rfl, kvs, h1, h2⟩ | ⟨rfl, kvs, h1, h2⟩⟩ := R.dicOf r h
  · obtain ⟨k, rfl, rfl, _⟩ := key_of r2 hk
    refine ⟨a, _, rfl, .inl ⟨kvs, k, h1, rfl, rfl⟩, ?_⟩
    exact h2.find k
  · cases r2 with
    | tup e1 l =>
      obtain ⟨k, rfl, rfl, _⟩ := keys_of l hk
      refine ⟨a, _, rfl, .inr ⟨kvs, k, _, h1, rfl, R.fz.tup e1, rfl⟩, ?_⟩
      exact h2.find k
    | _ => cases hk
theorem flat_v {T : Nam} {ι : List Addr} {G : Hp} {v : V} {d : D} (r : RepD T ι G v d) (h : d.flat = true) : flatV v = true := by
  cases r <;> first | rfl | exact Bool.noConfusion h
theorem flat_vs {T : Nam} {ι : List Addr} {G : Hp} : ∀ {v : List V} {d : List D}, RepL T ι G v d → d.all D.flat = true → v.all flatV = true
  | _, _, .nil, _ => rfl
  | _, _, .cons h r, e => by
    rw [List.all_cons, Bool.and_eq_true] at e ⊢
    exact ⟨flat_v h e.1, flat_vs r e.2⟩
theorem flat_eq {T : Nam} {ι : List Addr} {G : Hp} {v y : V} {d e : D} (r : RepD T ι G v d) (r2 : RepD T ι G y e) (h : d.flat = true) (h2 : e.flat = true) : eqV v y = d.eqv e := by
  cases r <;> first | exact Bool.noConfusion h | (cases r2 <;> first | exact Bool.noConfusion h2 | rfl | skip)
theorem flat_in {T : Nam} {ι : List Addr} {G : Hp} {y : V} {e : D} (r2 : RepD T ι G y e) (h2 : e.flat = true) : ∀ {v : List V} {d : List D}, RepL T ι G v d → d.all D.flat = true → inV y v = d.any fun x => x.eqv e
  | _, _, .nil, _ => rfl
  | _, _, .cons h r, k => by
    rw [List.all_cons, Bool.and_eq_true] at k
    have ih := flat_in r2 h2 r k.2
    unfold inV at ih ⊢
    rw [List.any_cons, List.any_cons, ih, flat_eq h r2 k.1 h2]
theorem any_py {n m : Nat} {e : D} (he : e.dat m = true) : ∀ {xs : List D}, D.dats n xs = true → ((toPys xs).any fun z => PyData.eqv z (toPy e)) = xs.any fun x => x.eqv e
  | [], _ => rfl
  | x :: r, h => by
    unfold D.dats at h
    rw [Bool.and_eq_true] at h
    unfold toPys
    rw [List.any_cons, List.any_cons, any_py he h.2, eqv_py x e h.1 he]
/-- what «in» finds -/
theorem in_op (hu : X.A.units + 100 < cLine) (hK : X.K = q.T.K) {neg : Bool} {d e : D} {μ : Store} {b : Bool} (h : inS μ d e = some b) (ea eb : Expr) :
    ∃ R, CmpX X (if neg then .NotIn else .In) ea eb R ∧ Cmp2 q μ R d e (if neg then !b else b) := by
  unfold inS at h
  cases hd : dicOf μ e with
  | some p =>
    obtain ⟨t, kvs⟩ := p
    rw [hd] at h
    simp only at h
    split at h
    · rename_i hk
      cases h
      have main : ∀ (v y : V) (ι : List Addr) (G H : Hp) (Q : VK), RelH q.T ι G μ H → RepD q.T ι G v d → RepD q.T ι G y e → ∃ a o, y = .ref a ∧ DGet H a v o ∧ o.isSome = (kfind kvs d).isSome := fun v y ι G H Q R r1 r2 => by
        obtain ⟨a, o, h1, h2, h3⟩ := key_at R r2 r1 hd hk
        refine ⟨a, o, h1, h2, ?_⟩
        cases hf : kfind kvs d with
        | none => simp only [hf] at h3; subst h3; rfl
        | some x => simp only [hf] at h3; obtain ⟨u, h4, _⟩ := h3; subst h4; rfl
      cases neg with
      | false => exact ⟨fun v y H Q => ∃ a o, y = .ref a ∧ DGet H a v o ∧ Q (.bl o.isSome) H, fun ta tb pos ha hb hp => ⟨pe_cmp (pc_din (by omega) ha hb) (pl_mark hp _), pt_cmp (pc_din (by omega) ha hb) (pl_mark hp _)⟩, fun v y ι G H Q R r1 r2 hq => by
          obtain ⟨a, o, h1, h2, h3⟩ := main v y ι G H Q R r1 r2
          exact ⟨a, o, h1, h2, by rw [h3]; exact hq⟩⟩
      | true => exact ⟨fun v y H Q => ∃ a o, y = .ref a ∧ DGet H a v o ∧ Q (.bl (!o.isSome)) H, fun ta tb pos ha hb hp => ⟨pe_cmp (pc_dnotin (by omega) ha hb) (pl_mark hp _), pt_cmp (pc_dnotin (by omega) ha hb) (pl_mark hp _)⟩, fun v y ι G H Q R r1 r2 hq => by
          obtain ⟨a, o, h1, h2, h3⟩ := main v y ι G H Q R r1 r2
          exact ⟨a, o, h1, h2, by rw [h3]; exact hq⟩⟩
    · cases h
  | none =>
    rw [hd] at h
    simp only at h
    have tupc : ∀ xs : List D, (d.flat && xs.all D.flat) = true → b = (xs.any fun x => x.eqv d) → (∀ (y : V) (ι : List Addr) (G H : Hp), RelH q.T ι G μ H → RepD q.T ι G y e → ∃ a vs, y = .ref a ∧ SqT q.T.K H a vs ∧ RepL q.T ι G vs xs) → ∃ R, CmpX X (if neg then .NotIn else .In) ea eb R ∧ Cmp2 q μ R d e (if neg then !b else b) := fun xs hf hbv hy => by
      rw [Bool.and_eq_true] at hf
      have go : Cmp2 q μ (rIn X.K neg) d e (if neg then !b else b) := fun v y ι G H Q R r1 r2 hq => by
        obtain ⟨a, vs, h1, h2, h3⟩ := hy y ι G H R r2
        refine ⟨a, vs, h1, .inr (by rw [hK]; exact h2), flat_v r1 hf.1, flat_vs h3 hf.2, ?_⟩
        rw [flat_in r1 hf.1 h3 hf.2, ← hbv]
        exact hq
      cases neg with
      | false => exact ⟨_, cmpx_op op_in_seq _ _, go⟩
      | true => exact ⟨_, cmpx_op op_notIn_seq _ _, go⟩
    have lstc : ∀ xs : List D, lstOf μ e = some xs → (d.dat 60 && D.dats 59 xs) = true → b = (xs.any fun x => x.eqv d) → ∃ R, CmpX X (if neg then .NotIn else .In) ea eb R ∧ Cmp2 q μ R d e (if neg then !b else b) := fun xs hl hf hbv => by
      rw [Bool.and_eq_true] at hf
      have pre : ∀ (v y : V) (ι : List Addr) (G H : Hp), RelH q.T ι G μ H → RepD q.T ι G v d → RepD q.T ι G y e → Dp X.K H v (toPy d) ∧ Dp X.K H y (.list (toPys xs)) ∧ SeqAt.shaped (toPy d) = true ∧ SeqAt.shaped (.list (toPys xs)) = true ∧ ((toPys xs).any fun z => PyData.eqv z (toPy d)) = b := fun v y ι G H R r1 r2 => by
        obtain ⟨a, vs, h1, h2, h3⟩ := R.lstOf r2 hl
        obtain ⟨p1, p2, p3⟩ := dp_of R.fz r1 hf.1
        obtain ⟨s1, s2, s3⟩ := dps_of R.fz h3 hf.2
        refine ⟨by rw [hK]; exact p1, by rw [hK, h1]; exact .lst (.inl h2) s1, shaped_of p2 p3 (by decide), shaped_of (n := 60) (by unfold PyData.canLay0; exact s2) (by unfold PyData.depth; omega) (by decide), ?_⟩
        rw [any_py hf.1 hf.2, hbv]
      cases neg with
      | false => exact ⟨_, cmpx_op (op_inD (by omega)) _ _, fun v y ι G H Q R r1 r2 hq => by
          obtain ⟨h1, h2, h3, h4, h5⟩ := pre v y ι G H R r1 r2
          exact ⟨_, _, h1, h2, h3, h4, by rw [h5]; exact hq⟩⟩
      | true => exact ⟨_, cmpx_op (op_notInD (by omega)) _ _, fun v y ι G H Q R r1 r2 hq => by
          obtain ⟨h1, h2, h3, h4, h5⟩ := pre v y ι G H R r1 r2
          exact ⟨_, _, h1, h2, h3, h4, by rw [h5]; exact hq⟩⟩
    split at h
    · -- signs in a text
      rename_i x y
      cases h
      cases neg with
      | false => exact ⟨_, cmpx_op op_in_str _ _, fun v y' ι G H Q R r1 r2 hq => by cases r1; cases r2; exact ⟨_, _, rfl, rfl, hq⟩⟩
      | true => exact ⟨_, cmpx_op op_notin_str _ _, fun v y' ι G H Q R r1 r2 hq => by cases r1; cases r2; exact ⟨_, _, rfl, rfl, hq⟩⟩
    · split at h
      · rename_i hf
        cases h
        exact tupc _ hf rfl fun y ι G H R r => by cases r with | tup e1 l => exact ⟨_, _, rfl, .inl (.inl (R.fz.tup e1)), l⟩
      · cases h
    · split at h
      · rename_i hf
        cases h
        exact tupc _ hf rfl fun y ι G H R r => by cases r with | wtup e1 l => exact ⟨_, _, rfl, R.fz.sqt e1, l⟩
      · cases h
    · split at h
      · rename_i xs hl
        split at h
        · rename_i hf
          cases h
          exact lstc xs hl hf rfl
        · cases h
      · cases h
theorem cmp_op (hu : X.A.units + 100 < cLine) (hK : X.K = q.T.K) {o : CmpO} {op : CmpOp} (ho : oCmp op = some o) {d e : D} {μ : Store} {b : Bool} (h : cmpS μ o d e = some b) (ea eb : Expr) : ∃ R, CmpX X op ea eb R ∧ Cmp2 q μ R d e b := by
  have eqc : ∀ c, eqS μ d e = some c → (Cmp2 q μ (rEqD X.K) d e c) ∧ Cmp2 q μ (rNeD X.K) d e (!c) := fun c hc => by
    obtain ⟨d', e', s1, s2, d1, d2, rfl⟩ := eqS_inv hc
    have pre : ∀ (v y : V) (ι : List Addr) (G H : Hp), RelH q.T ι G μ H → RepD q.T ι G v d → RepD q.T ι G y e → Dp X.K H v (toPy d') ∧ Dp X.K H y (toPy e') ∧ SeqAt.shaped (toPy d') = true ∧ SeqAt.shaped (toPy e') = true ∧ PyData.eqv (toPy d') (toPy e') = d'.eqv e' := fun v y ι G H R r1 r2 => by
      obtain ⟨p1, p2, p3⟩ := dp_still R r1 s1 d1
      obtain ⟨o1, o2, o3⟩ := dp_still R r2 s2 d2
      exact ⟨by rw [hK]; exact p1, by rw [hK]; exact o1, shaped_of p2 p3 (by decide), shaped_of o2 o3 (by decide), eqv_py _ _ d1 d2⟩
    refine ⟨fun v y ι G H Q R r1 r2 hq => ?_, fun v y ι G H Q R r1 r2 hq => ?_⟩
    all_goals
      obtain ⟨h1, h2, h3, h4, h5⟩ := pre v y ι G H R r1 r2
      exact ⟨_, _, h1, h2, h3, h4, by rw [h5]; exact hq⟩
  have intc : ∀ (f : Int → Int → Bool), (∀ i j : Int, d = .int i → e = .int j → b = f i j) → (∃ i j : Int, d = .int i ∧ e = .int j) → Cmp2 q μ (rI0 fun i j => .bl (f i j)) d e b := fun f hf ⟨i, j, h1, h2⟩ v y ι G H Q R r1 r2 hq => by
    subst h1 h2
    cases r1
    cases r2
    exact ⟨i, j, rfl, rfl, by rw [hf i j rfl rfl] at hq; exact hq⟩
  cases op <;> simp only [oCmp, Option.some.injEq] at ho <;> subst ho
  · rw [cmpS_eq] at h
    exact ⟨_, cmpx_op (op_eqD (by omega)) _ _, (eqc b h).1⟩
  · rw [cmpS_ne] at h
    cases hc : eqS μ d e with
    | none => rw [hc] at h; cases h
    | some c =>
      rw [hc] at h
      cases h
      exact ⟨_, cmpx_op (op_neD (by omega)) _ _, (eqc c hc).2⟩
  · cases d <;> cases e <;> simp only [cmpS, reduceCtorEq, Option.some.injEq] at h
    exact ⟨_, cmpx_op op_lt _ _, intc (fun i j => decide (i < j)) (fun i j h1 h2 => by cases h1; cases h2; exact h.symm) ⟨_, _, rfl, rfl⟩⟩
  · cases d <;> cases e <;> simp only [cmpS, reduceCtorEq, Option.some.injEq] at h
    exact ⟨_, cmpx_op op_le _ _, intc (fun i j => decide (i ≤ j)) (fun i j h1 h2 => by cases h1; cases h2; exact h.symm) ⟨_, _, rfl, rfl⟩⟩
  · cases d <;> cases e <;> simp only [cmpS, reduceCtorEq, Option.some.injEq] at h
    exact ⟨_, cmpx_op op_gt _ _, intc (fun i j => decide (j < i)) (fun i j h1 h2 => by cases h1; cases h2; exact h.symm) ⟨_, _, rfl, rfl⟩⟩
  · cases d <;> cases e <;> simp only [cmpS, reduceCtorEq, Option.some.injEq] at h
    exact ⟨_, cmpx_op op_ge _ _, intc (fun i j => decide (j ≤ i)) (fun i j h1 h2 => by cases h1; cases h2; exact h.symm) ⟨_, _, rfl, rfl⟩⟩
  · -- is
    cases e with
    | non =>
      rw [cmpS_isN] at h
      cases h
      refine ⟨_, cmpx_op op_isN _ _, fun v y ι G H Q R r1 r2 hq => ?_⟩
      cases r2
      refine ⟨rfl, ?_⟩
      have e : decide (v = V.non) = decide (d = D.non) := by cases r1 <;> simp
      rw [e]
      exact hq
    | bl b2 => cases d with
      | bl b1 =>
        cases h
        exact ⟨_, cmpx_op op_isBl _ _, fun v y ι G H Q R r1 r2 hq => by cases r1; cases r2; exact ⟨b1, b2, rfl, rfl, hq⟩⟩
      | _ => simp only [cmpS, reduceCtorEq] at h
    | _ => cases d <;> simp only [cmpS, reduceCtorEq] at h
  · cases e with
    | non =>
      rw [cmpS_ntN] at h
      cases h
      refine ⟨_, cmpx_op op_notN _ _, fun v y ι G H Q R r1 r2 hq => ?_⟩
      cases r2
      refine ⟨rfl, ?_⟩
      have e : decide (v = V.non) = decide (d = D.non) := by cases r1 <;> simp
      rw [e]
      exact hq
    | bl b2 => cases d with
      | bl b1 =>
        cases h
        exact ⟨_, cmpx_op op_notBl _ _, fun v y ι G H Q R r1 r2 hq => by cases r1; cases r2; exact ⟨b1, b2, rfl, rfl, hq⟩⟩
      | _ => simp only [cmpS, reduceCtorEq] at h
    | _ => cases d <;> simp only [cmpS, reduceCtorEq] at h
  · rw [cmpS_in] at h
    exact in_op (neg := false) hu hK h ea eb
  · rw [cmpS_ni] at h
    cases hc : inS μ d e with
    | none => rw [hc] at h; cases h
    | some c =>
      rw [hc] at h
      cases h
      exact in_op (neg := true) hu hK hc ea eb
end Co

set_option linter.all false
set_option maxRecDepth 100000
set_option Elab.async false
/-! Co8: parts of expressions. -/
namespace Co
open PySem L2
variable {q : Cq} {sc : Scope} {N : List Str} {W : WX} {X : Cx}
theorem RepL.vals {T : Nam} {ι : List Addr} {G : Hp} {dv : List D} (h : dv.all D.lit = true) : RepL T ι G (dv.map dV) dv := by
  induction dv with
  | nil => exact .nil
  | cons d r ih =>
    rw [List.all_cons, Bool.and_eq_true] at h
    exact .cons (rep_lit h.1) (ih h.2)
/-- a def of the table runs -/
theorem run_fnW (x : XOk q sc N W X) {f : Nat} {pins : List (Addr × Obj)} {σ : L2.St} {H : Hp} {s : Shared} {Q : VK} {us : List Value} {vs : List V} {ds dv : List D} {ι : List Addr} {G : Hp} {μ : Store} (hd : dflB q f dv = true)
    (I : Inv X pins σ H s) (r : Vals vs us) (R : RelH q.T ι G μ H) (rl : RepL q.T ι G vs ds) (c : Ct q.T W σ ι G (q.call f (ds ++ dv) μ) Q) : wpAny (model X.prog X.w) X.A (call (.ref (q.fA f)) us) (EP X pins σ Q) X.xe s := by
  obtain ⟨fd, ps, F, B, kp⟩ := (x.fns f ⟨_, _, c.ok⟩).ex
  obtain ⟨dsv, hv, hb⟩ := B dv hd
  have hl : dv.all D.lit = true := by
    unfold dflB at hd
    simp only [Bool.and_eq_true] at hd
    exact hd.2
  refine run_fnSD (E := WE W) F (x.room.mono (Nat.le_succ _)) hb hv (passAt x.tk σ) I r ⟨ι, G, μ, ds ++ dv, R, rl.append (RepL.vals hl), ?_⟩
  have e : ∀ r : RD, Ct q.T W σ ι G r Q → Ct q.T (fun cls dd _ H => WE W σ cls dd H) [] ι G r Q := fun r hr => by
    cases r with
    | ok d μ => exact hr
    | ex y μ => exact hr
    | bad => exact hr
  exact e _ c
theorem kp_of (x : XOk q sc N W X) {f : Nat} (h : ∃ ds μ, q.call f ds μ ≠ .bad) : PySem.W.keepIn X.K (.ref (q.fA f)) = true := by
  obtain ⟨_, _, _, _, k⟩ := (x.fns f h).ex
  exact k
/-- f(..), the value of f known -/
theorem call_args (x : XOk q sc N W X) {es : List Expr} {as : CE} {pos p : Pos} {y : Str} {fv : Value} {F : List D → Store → RD} (hg : glB sc y = true) (hdb : dbgB y = false) (hp : es.all plE = true) (hn : es = [] → as = .anil) (ha : PA X es (tA q W as))
    (hk : PySem.W.keepIn X.K fv = true) (hm : X.mg y = some fv)
    (run : ∀ (pins : List (Addr × Obj)) (σ : L2.St) (H : Hp) (s : Shared) (Q : VK) (us : List Value) (vs : List V) (ds : List D) (ι : List Addr) (G : Hp) (μ : Store), Inv X pins σ H s → Vals vs us → RelH q.T ι G μ H → RepL q.T ι G vs ds → Ct q.T W σ ι G (F ds μ) Q →
      wpAny (model X.prog X.w) X.A (call fv us) (EP X pins σ Q) X.xe s) {pins : List (Addr × Obj)} {s : Shared} {σ : L2.St} {H : Hp} {Q : VK} (I : Inv X pins σ H s) {env : Env} {μ : Store} {ι : List Addr} {G : Hp}
    (R : RelH q.T ι G μ H) (S : RelS q.T ι G env σ) (c : Ct q.T W σ ι G ((evA q.P q.call as env μ).bind F) Q) :
    wpAny (model X.prog X.w) X.A (eval (.Call (.Name y p) es [] pos) X.env) (EP X pins σ Q) X.xe s := by
  have hA : tA q W as σ H (fun vs H' => ∃ (ι' : List Addr) (G' : Hp) (μ' : Store) (ds : List D), RelH q.T ι' G' μ' H' ∧ RepL q.T ι' G' vs ds ∧ Ct q.T W σ ι' G' (F ds μ') Q) :=
    ⟨env, μ, ι, G, R, S, GCt.bind c fun ds μ1 vs ι1 G1 H1 _ g r d c1 => ⟨ι1, G1, μ1, ds, r, d, c1⟩⟩
  cases es with
  | nil =>
    refine wpAny_Call_Name_kw (ld_glob I (x.gl hg) hm ?_ (dbg1 hdb))
    rw [hn rfl] at c
    exact PySem.W.callWith_K0 I.kIn hk (run pins σ H s Q [] [] [] ι G μ I .nil R .nil c)
  | cons e es =>
    refine wpAny_Call_Name_kw (ld_glob I (x.gl hg) hm ?_ (dbg1 hdb))
    rw [List.all_cons, Bool.and_eq_true] at hp
    refine PySem.W.callWith_K (h₀ := X.base) I.ok.mod.kin hk (thn (ha.run pos pins s σ H _ I hA) fun us s1 ⟨vs, H1, I1, r, ι1, G1, μ1, ds, R1, d1, c1⟩ => ⟨I1.kIn, ?_⟩) (pl_star hp.1 es _) (pl_any hp.2)
    exact run pins σ H1 s1 Q us vs ds ι1 G1 μ1 I1 r R1 d1 c1
/-- behind a call, the callee's cells gone -/
theorem leave_ct {T : Nam} {W : WX} {σ : L2.St} {ι : List Addr} {G H : Hp} {μ : Store} {r : RD} {Q : VK} (R0 : RelH T ι G μ H) (c : Ct T W σ ι G (leave μ r) Q) : Ct T W σ ι G r Q := by
  cases r with
  | ok d μ' =>
    intro v ι' G' H' g R rv
    have c' : Ct T W σ ι G (if d.lt μ.length && keeps μ.length μ μ' then .ok d (μ'.take μ.length) else .ok d μ') Q := c
    split at c'
    · rename_i h
      rw [Bool.and_eq_true] at h
      obtain ⟨g2, R2⟩ := R0.leave g R h.2
      exact c' v _ _ _ g2 R2 (rv.back h.1)
    · exact c' v _ _ _ g R rv
  | ex x μ' =>
    intro cls dd ι' G' H' g R rx
    have c' : Ct T W σ ι G (if D.ltf μ.length x.fs && keeps μ.length μ μ' then .ex x (μ'.take μ.length) else .ex x μ') Q := c
    split at c'
    · rename_i h
      rw [Bool.and_eq_true] at h
      obtain ⟨g2, R2⟩ := R0.leave g R h.2
      obtain ⟨h1, h2⟩ := rx
      refine c' cls dd _ _ _ g2 R2 ⟨h1, ?_⟩
      rcases h2 with h2 | ⟨d, vs, e1, e2, e3⟩
      · exact .inl h2
      · exact .inr ⟨d, vs, e1, e2, e3.back h.1⟩
    · exact c' cls dd _ _ _ g R rx
  | bad => exact c
/-- an own class called -/
theorem run_makeW (x : XOk q sc N W X) {cl : Nat} {fz : Bool} {pins : List (Addr × Obj)} {σ : L2.St} {H : Hp} {s : Shared} {Q : VK} {us : List Value} {vs : List V} {ds dv : List D} {ι : List Addr} {G : Hp} {μ : Store} (hd : ∀ f, q.P.init.getD cl none = some f → dflB q f dv = true)
    (I : Inv X pins σ H s) (r : Vals vs us) (R : RelH q.T ι G μ H) (rl : RepL q.T ι G vs ds) (c : Ct q.T W σ ι G (makeS q.P q.call cl fz (ds ++ dv) μ) Q) : wpAny (model X.prog X.w) X.A (call (.ref (q.T.cA cl)) us) (EP X pins σ Q) X.xe s := by
  unfold makeS at c
  cases hi : q.P.init.getD cl none with
  | none => rw [hi] at c; exact c.elim
  | some f =>
    rw [hi] at c
    simp only at c
    have M := x.lk.mak cl f hi
    rw [← x.eK] at M
    have hb0 : q.call f (.cell μ.length :: (ds ++ dv)) (μ ++ [.ins cl []]) ≠ .bad := fun e => by rw [e] at c; exact c
    obtain ⟨fd, ps, F, B, kp⟩ := (x.fns f ⟨_, _, hb0⟩).ex
    have hd := hd f hi
    obtain ⟨dsv, hv, hb⟩ := B dv hd
    have hl : dv.all D.lit = true := by
      unfold dflB at hd
      simp only [Bool.and_eq_true] at hd
      exact hd.2
    have nx : H (s.heap.objs.size + 1) = none := I.hok.fresh (Nat.le_succ _)
    have ndx : H s.heap.objs.size = none := I.hok.fresh (Nat.le_refl _)
    have nex : s.heap.objs.size ≠ s.heap.objs.size + 1 := Nat.ne_of_lt (Nat.lt_succ_self _)
    have R1 := R.other (.own (s.heap.objs.size + 1)) ndx
    have nx1 : upd H s.heap.objs.size (.own (s.heap.objs.size + 1)) (s.heap.objs.size + 1) = none := by rw [upd_ne nex.symm]; exact nx
    have R2 := R1.cell (c := .ins cl []) (o := .ins (q.T.cA cl) s.heap.objs.size []) nx1 (.ins (R.fz.free nx) upd_same .nil)
    have gcell := Grow.cell ι G (s.heap.objs.size + 1)
    have hlen : (ι ++ [s.heap.objs.size + 1])[μ.length]? = some (s.heap.objs.size + 1) := by rw [← R.len]; simp
    have hq : spC q.T q.call f (.ref (s.heap.objs.size + 1) :: (vs ++ dv.map dV)) (upd (upd H s.heap.objs.size (.own (s.heap.objs.size + 1))) (s.heap.objs.size + 1) (.ins (q.T.cA cl) s.heap.objs.size [])) (fun v H2 => v = .non ∧ Q (.ref (s.heap.objs.size + 1)) H2) (WE W σ) := by
      refine ⟨_, _, _, _, R2, .cons (.cell hlen) ((rl.append (RepL.vals hl)).mono gcell), ?_⟩
      cases hr : q.call f (.cell μ.length :: (ds ++ dv)) (μ ++ [.ins cl []]) with
      | bad => exact absurd hr hb0
      | ex y μ' =>
        rw [hr] at c
        simp only at c
        have c2 := leave_ct R c
        intro cls dd ι' G' H' g R' rx
        exact c2 cls dd ι' G' H' (gcell.trans g) R' rx
      | ok d μ' =>
        rw [hr] at c
        intro v ι' G' H' g R' rv
        cases rv with
        | non =>
          refine ⟨rfl, ?_⟩
          simp only at c
          have ha : ι'[μ.length]? = some (s.heap.objs.size + 1) := g.ix _ _ hlen
          cases fz with
          | false => exact c (.ref _) ι' G' H' (gcell.trans g) R' (.cell ha)
          | true =>
            simp only [if_true] at c
            cases ht : thaw μ.length μ' with
            | none => rw [ht] at c; exact c.elim
            | some p =>
              obtain ⟨d2, μ2⟩ := p
              rw [ht] at c
              simp only at c
              obtain ⟨G2, g2, R3, hr3⟩ := R'.thaw ht
              exact leave_ct R c (.ref _) ι' G2 H' ((gcell.trans g).trans g2) R3 (hr3 _ ha)
        | _ => exact c.elim
    have I2 := Inv.made (C := q.T.cA cl) I
    have r2 : Vals (V.ref (s.heap.objs.size + 1) :: (vs ++ dv.map dV)) (Value.ref (s.heap.objs.size + 1) :: (us ++ dsv)) := .cons rfl (r.append hv)
    have hlen2 : (Value.ref (s.heap.objs.size + 1) :: us ++ dsv).length = ps.length := by
      have e := r2.length
      rw [F.len _ _ _ _ hq] at e
      exact e.symm
    refine wpAny_call (make_map (f := q.fA f) I.kIn M.makes M.init (beq_iff_eq.mp M.fn) (codeAny_mono (F.run _ X.stack _ _ ⟨Value.ref (s.heap.objs.size + 1) :: us, []⟩ (Value.ref (s.heap.objs.size + 1) :: (us ++ dsv)) _ _ (WE W σ) (x.room.make _ us [])
      (I2.env0.make _ us []) (hb _ (Value.ref (s.heap.objs.size + 1) :: us) I2.kIn hlen2) r2 hq) fun r s' hq' => ?_))
    cases r with
    | error e => exact passAt x.tk σ pins _ _ e s' I2 hq'
    | ok fl =>
      cases fl with
      | ret u =>
        obtain ⟨v, H', I3, rv, ev, q3⟩ := I2.after hq'
        subst ev
        exact ⟨rv, ⟨V.ref (s.heap.objs.size + 1), H', I3, rfl, q3⟩⟩
      | next => exact False.elim hq'
      | brk => exact False.elim hq'
      | cont => exact False.elim hq'
end Co

set_option linter.all false
set_option maxRecDepth 100000
set_option Elab.async false
/-! Co9: fields, methods. -/
namespace Co
open PySem L2
variable {q : Cq} {sc : Scope} {N : List Str} {W : WX} {X : Cx}
theorem few_ok {es : List Expr} {pos : Pos} {env : PySem.Env} (hp : es.all plE = true) (hf : es.length < 30) : ((backTo pos (starEach es env)).all (fun x => !x.1) && (backToKw pos (keywordEach [] env)).all (fun x => x.1.isSome) && decide (es.length + ([] : List Keyword).length + (if ([] : List Keyword).isEmpty then 0 else 1) < 30)) = true := by
  rw [pl_all hp]
  show (true && true && decide (es.length + 0 + 0 < 30)) = true
  simpa using hf
theorem meth_eval {o : Expr} {m : Str} {apos pos : Pos} {es : List Expr} {env : PySem.Env} (hs : noSup o = true) (hp : es.all plE = true) (hf : es.length < 30) (hl : (apos.endLine == pos.line) = true) :
    eval (.Call (.Attribute o m apos) es [] pos) env = (do
      let ov ← eval o env
      standAt apos.atName
      let (f, first) ← holding [ov] (getMethod ov m (do return (← importBound o env).getD true))
      callWith pos f first (backTo pos (starEach es env)) (backToKw pos (keywordEach [] env))) := by
  show (do
    let ov ← attributeBase o m env (eval o env)
    standAt apos.atName
    methodCall o m apos pos env ov (es.length + ([] : List Keyword).length) (backTo pos (starEach es env)) (backToKw pos (keywordEach [] env))) = _
  rw [att_base hs]
  have e1 : methodCallForm (es.length + ([] : List Keyword).length) (backTo pos (starEach es env)) (backToKw pos (keywordEach [] env)) = true := by
    unfold methodCallForm
    rw [pl_all hp]
    show (true && true && decide (es.length + 0 + 0 < 30)) = true
    simpa using hf
  unfold methodCall
  rw [e1]
  unfold calleeOf methodCallPos
  rw [hl]
  rfl
theorem se_fld {o : CE} {e : Expr} {f : Nat} {pos : Pos} (x : XOk q sc N W X) (h : PE X e (tE q W o)) (hs : noSup e = true) : PE X (.Attribute e (q.T.fN f) pos) (tE q W (.fld o f)) := by
  refine PE.dyn fun σ H Q ⟨env, μ, ι, G, R, S, c⟩ => ⟨_, pe_fld h (att_base hs _ _ _), env, μ, ι, G, R, S, ?_⟩
  have c' : Ct q.T W σ ι G ((evE q.P q.call o env μ).bind fun d μ => fldS q.P.fok μ (insOf μ d) f) Q := c
  refine GCt.bind c' fun d μ1 v ι1 G1 H1 _ g r rv c1 => ?_
  cases hi : insOf μ1 d with
  | none => rw [hi] at c1; exact c1.elim
  | some p =>
    obtain ⟨cl, fs⟩ := p
    rw [hi] at c1
    have c2 : Ct q.T W σ ι1 G1 (if fokB q.P.fok cl f then ofO (fget fs f) μ1 else .bad) Q := c1
    split at c2
    · rename_i hk
      obtain ⟨d2, hd, c3⟩ := c2.ofO
      obtain ⟨a, dx, vs, rfl, ha, hf⟩ := r.insOf rv hi
      obtain ⟨k1, k2⟩ := x.lk.at_ cl f hk
      have hfind := RepF.find x.lk.inj f hf
      rw [hd] at hfind
      obtain ⟨u, hu, ru⟩ := hfind
      exact ⟨a, _, dx, vs, u, rfl, ha, by rw [x.eK]; exact k1, by rw [x.eK]; exact k2, hu, ct_val c3 r ru⟩
    · exact c2.elim
theorem lookup_none {T : Nam} {ι : List Addr} {G : Hp} {m : Str} (hm : ∀ g, m ≠ T.fN g) : ∀ {vs : List (Str × V)} {ds : List (Nat × D)}, RepF T ι G vs ds → vs.lookup m = none
  | _, _, .nil => rfl
  | _, _, .cons (f := f) _ r => by
    have e : (m == T.fN f) = false := beq_eq_false_iff_ne.mpr (hm f)
    simp [List.lookup, e, lookup_none hm r]
theorem se_meth {o as : CE} {e : Expr} {es : List Expr} {m : Nat} {apos pos : Pos} (x : XOk q sc N W X) (h : PE X e (tE q W o)) (ha : PA X es (tA q W as)) (hs : noSup e = true) (hp : es.all plE = true) (hf : es.length < 30) (hl : (apos.endLine == pos.line) = true) (hn : es = [] → as = .anil) (hd0 : ∀ f, dflB q f [] = true) :
    PE X (.Call (.Attribute e (mN q m) apos) es [] pos) (tE q W (.meth o m as)) := by
  refine ⟨fun pins s σ H Q I ⟨env, μ, ι, G, R, S, c⟩ => ?_⟩
  have c' : Ct q.T W σ ι G ((evE q.P q.call o env μ).bind fun d μ => match methOf q.P μ m d with
    | some f => (evA q.P q.call as env μ).bind fun ds μ => q.call f (d :: ds) μ
    | none => .bad) Q := c
  have h0 : tE q W o σ H (fun v H' => ∃ (ι' : List Addr) (G' : Hp) (μ' : Store) (d : D) (f : Nat) (a C dx : Addr) (fs : List (Str × V)), RelH q.T ι' G' μ' H' ∧ RelS q.T ι' G' env σ ∧ RepD q.T ι' G' v d ∧ Ct q.T W σ ι' G' ((evA q.P q.call as env μ').bind fun ds μ => q.call f (d :: ds) μ) Q ∧
      v = .ref a ∧ H' a = some (.ins C dx fs) ∧ Cls X.K C ∧ Meth X.K C (mN q m) (q.fA f) ∧ fs.lookup (mN q m) = none) := by
    refine ⟨env, μ, ι, G, R, S, GCt.bind c' fun d μ1 v ι1 G1 H1 _ g r rv c1 => ?_⟩
    cases hi : insOf μ1 d with
    | none => simp only [methOf, hi] at c1; exact c1.elim
    | some p =>
      obtain ⟨cl, fs⟩ := p
      cases hm : (q.P.mth.getD cl []).lookup m with
      | none => simp only [methOf, hi, hm] at c1; exact c1.elim
      | some f =>
        simp only [methOf, hi, hm] at c1
        obtain ⟨a, dx, vs, e1, e2, e3⟩ := r.insOf rv hi
        obtain ⟨k1, k2, k3⟩ := x.lk.mth cl m f hm
        exact ⟨ι1, G1, μ1, d, f, a, _, dx, vs, r, S.mono g, rv, c1, e1, e2, by rw [x.eK]; exact k1, by rw [x.eK]; exact k2, lookup_none k3 e3⟩
  refine PySem.W.methodCall_KW (thn (h.run pins s σ H _ I h0) fun u s1 ⟨v, H1, I1, rx, ι1, G1, μ1, d, f, a, C, dx, fs, R1, S1, rv, c1, ev, ea, k1, k2, k3⟩ => ?_) (meth_eval hs hp hf hl)
  subst ev
  obtain rfl : u = Value.ref a := rx
  refine getmeth_ok I1 ea k1 k2 k3 ?_
  have hA : tA q W as σ H1 (fun vs H' => ∃ (ι' : List Addr) (G' : Hp) (μ' : Store) (ds : List D), RelH q.T ι' G' μ' H' ∧ RepD q.T ι' G' (.ref a) d ∧ RepL q.T ι' G' vs ds ∧ Ct q.T W σ ι' G' (q.call f (d :: ds) μ') Q) :=
    ⟨env, μ1, ι1, G1, R1, S1, GCt.bind c1 fun ds μ2 vs ι2 G2 H2 _ g r rl c2 => ⟨ι2, G2, μ2, ds, r, rv.mono g, rl, c2⟩⟩
  have run : ∀ (H2 : Hp) (s2 : Shared) (us : List Value) (vs : List V) (ds : List D) (ι2 : List Addr) (G2 : Hp) (μ2 : Store), Inv X pins σ H2 s2 → Vals vs us → RelH q.T ι2 G2 μ2 H2 → RepD q.T ι2 G2 (.ref a) d → RepL q.T ι2 G2 vs ds → Ct q.T W σ ι2 G2 (q.call f (d :: ds) μ2) Q →
      wpAny (model X.prog X.w) X.A (call (.ref (q.fA f)) (.ref a :: us)) (EP X pins σ Q) X.xe s2 := fun H2 s2 us vs ds ι2 G2 μ2 I2 r R2 rd rl c2 =>
    run_fnW (dv := []) x (hd0 f) I2 (show Vals (V.ref a :: vs) (Value.ref a :: us) from .cons rfl r) R2 (.cons rd rl) (by rw [List.append_nil]; exact c2)
  cases es with
  | nil =>
    rw [hn rfl] at c1
    exact PySem.W.callWith_K0 (first := [.ref a]) I1.kIn k2.kp (run H1 s1 [] [] [] ι1 G1 μ1 I1 .nil R1 rv .nil c1)
  | cons e1 es =>
    rw [List.all_cons, Bool.and_eq_true] at hp
    exact PySem.W.callWith_K (first := [.ref a]) (h₀ := X.base) I.ok.mod.kin k2.kp (thn (ha.run pos pins s1 σ H1 _ I1 hA) fun us s2 ⟨vs, H2, I2, r, ι2, G2, μ2, ds, R2, rd, rl, c2⟩ => ⟨I2.kIn, run H2 s2 us vs ds ι2 G2 μ2 I2 r R2 rd rl c2⟩) (pl_star hp.1 es _) (pl_any hp.2)
/-! ### methods of built-in things -/
/-- a rule of the kind tBM, told by the evaluator -/
theorem bm_tbm {o as : CE} {b : BM} {T : String} {r : V → List V → Hp → VK → Prop} {σ : L2.St} {H : Hp} {Q : VK} {env : Env} {μ : Store} {ι : List Addr} {G : Hp} (R : RelH q.T ι G μ H) (S : RelS q.T ι G env σ)
    (c : Ct q.T W σ ι G (evE q.P q.call (.bm b o as) env μ) Q)
    (ty : ∀ d μ1, bmTy μ1 b d = true → ∀ v ι G H, RelH q.T ι G μ1 H → RepD q.T ι G v d → tyV X.K T v H)
    (op : ∀ d ds μ2, ∀ v vs ι G H, RelH q.T ι G μ2 H → RepD q.T ι G v d → RepL q.T ι G vs ds → Ct q.T W σ ι G (bmS μ2 b d ds) Q → r v vs H Q) :
    tBM X.K T r (tE q W o) (tA q W as) σ H Q := by
  have c' : Ct q.T W σ ι G ((evE q.P q.call o env μ).bind fun d μ => if bmTy μ b d then (evA q.P q.call as env μ).bind fun ds μ => bmS μ b d ds else .bad) Q := c
  refine ⟨env, μ, ι, G, R, S, GCt.bind c' fun d μ1 v ι1 G1 H1 he g r1 rv c1 => ?_⟩
  split at c1
  · rename_i hb
    exact ⟨ty d μ1 hb v ι1 G1 H1 r1 rv, env, μ1, ι1, G1, r1, S.mono g, GCt.bind c1 fun ds μ2 vs ι2 G2 H2 he2 g2 r2 rl c2 => op d ds μ2 v vs ι2 G2 H2 r2 (rv.mono g2) rl c2⟩
  · exact c1.elim
theorem ty_list (hK : X.K = q.T.K) {d : D} {μ : Store} (h : (lstOf μ d).isSome = true) (v : V) (ι : List Addr) (G H : Hp) (R : RelH q.T ι G μ H) (r : RepD q.T ι G v d) : tyV X.K "list" v H := by
  obtain ⟨xs, hx⟩ := Option.isSome_iff_exists.mp h
  obtain ⟨a, vs, rfl, h1, _⟩ := R.lstOf r hx
  exact .inl ⟨rfl, vs, .inl h1⟩
theorem cell_lst {T : Nam} {ι : List Addr} {G H : Hp} {μ : Store} (R : RelH T ι G μ H) {v : V} {i : Nat} (r : RepD T ι G v (.cell i)) {xs : List D} (h : μ[i]? = some (.lst xs)) : ∃ a vs, v = .ref a ∧ ι[i]? = some a ∧ G a = none ∧ H a = some (.lst vs) ∧ RepL T ι G vs xs := by
  cases r with
  | cell hi => cases R.cel i _ _ hi h with
    | lst h1 h2 h3 => exact ⟨_, _, rfl, hi, h1, h2, h3⟩
/-- a list's cell is written, None comes back -/
theorem ct_write {T : Nam} {W : WX} {σ : L2.St} {ι : List Addr} {G H : Hp} {μ : Store} {Q : VK} {i : Nat} {a : Addr} {c c' : Cell} {o : HO} (R : RelH T ι G μ H) (e1 : ι[i]? = some a) (e2 : μ[i]? = some c) (hd : c.free = true) (hc : CellAt T ι G (upd H a o) a c')
    (k : Ct T W σ ι G (.ok .non (μ.set i c')) Q) : Q .non (upd H a o) := ct_val k (R.write e1 e2 hd hc) .non
def bmName : BM → Str
  | .append => "append"
  | .extend => "extend"
  | .clear => "clear"
  | .get => "get"
  | .split => "split"
  | .join => "join"
  | .startswith => "startswith"
  | .strip => "strip"
  | .partition => "partition"
  | .index => "index"
  | .setdefault _ => "setdefault"
  | .pop => "pop"
  | .zfill => "zfill"
/-- what stands around a method's call -/
structure MB (X : Cx) (e : Expr) (es : List Expr) (apos pos : Pos) : Prop where
  hs : noSup e = true
  hp : es.all plE = true
  hf : es.length < 30
  hl : (apos.endLine == pos.line) = true
theorem MB.m1 {e a : Expr} {m : Str} {apos pos : Pos} (b : MB X e [a] apos pos) : M1 X e m apos a pos := by
  have h := b.hp
  rw [List.all_cons, Bool.and_eq_true] at h
  exact ⟨att_base b.hs _ _ _, few_ok b.hp b.hf, b.hl, by rw [pl_star h.1]; rfl⟩
theorem MB.m2 {e a c : Expr} {m : Str} {apos pos : Pos} (b : MB X e [a, c] apos pos) : M2 X e m apos a c pos := by
  have h := b.hp
  rw [List.all_cons, List.all_cons, Bool.and_eq_true, Bool.and_eq_true] at h
  exact ⟨att_base b.hs _ _ _, few_ok b.hp b.hf, b.hl, by rw [pl_star h.1, pl_star h.2.1]; rfl⟩
theorem bm_append {o as : CE} {e : Expr} {es : List Expr} {apos pos : Pos} (x : XOk q sc N W X) (h : PE X e (tE q W o)) (ha : PA X es (tA q W as)) (b : MB X e es apos pos) (ne : es ≠ []) : PE X (.Call (.Attribute e "append" apos) es [] pos) (tE q W (.bm .append o as)) := by
  cases es with
  | nil => exact absurd rfl ne
  | cons e1 es =>
    have hp := b.hp
    rw [List.all_cons, Bool.and_eq_true] at hp
    refine PE.dyn fun σ H Q ⟨env, μ, ι, G, R, S, c⟩ => ⟨_, pe_bm PySem.F.plainAttrs_list PySem.F.slot_list_append PySem.F.type_list_append mt_append h ha (att_base b.hs _ _ _) (few_ok b.hp b.hf) b.hl (pl_star hp.1 es _) (pl_any hp.2), bm_tbm R S c (fun d μ1 hb => ty_list x.eK hb) fun d ds μ2 v vs ι2 G2 H2 r2 rv rl c2 => ?_⟩
    cases d with
    | cell i => cases rl with
      | cons rd rl => cases rl with
        | nil =>
          cases hc : μ2[i]? with
          | none => simp only [bmS, hc] at c2; exact c2.elim
          | some cc => cases cc with
            | lst xs =>
              obtain ⟨a, us, rfl, e1, e2, e3, e4⟩ := cell_lst r2 rv hc
              simp only [bmS, hc] at c2
              split at c2
              · rename_i hz
                refine ⟨a, us, _, rfl, rfl, e3, ?_, ct_write r2 e1 hc rfl (.lst e2 upd_same (e4.append (.cons rd .nil))) c2⟩
                have := flip_len hz
                rw [e4.length]
                omega
              · exact c2.elim
            | _ => simp only [bmS, hc] at c2; exact c2.elim
        | cons _ _ => exact c2.elim
      | nil => exact c2.elim
    | _ => exact c2.elim
/-- arguments, each by itself -/
inductive Args (X : Cx) (q : Cq) (W : WX) : CE → List Expr → Prop
  | nil : Args X q W .anil []
  | cons {a r : CE} {e : Expr} {es : List Expr} : PE X e (tE q W a) → plE e = true → Args X q W r es → Args X q W (.acons a r) (e :: es)
theorem Args.pl {as : CE} {es : List Expr} (A : Args X q W as es) : es.all plE = true := by
  induction A with
  | nil => rfl
  | cons _ h _ ih => rw [List.all_cons, h, ih]; rfl
theorem Args.nl {as : CE} (A : Args X q W as []) : as = .anil := by cases A; rfl
theorem Args.nl' {as : CE} {es : List Expr} (A : Args X q W as es) (h : es = []) : as = .anil := by subst h; exact A.nl
theorem Args.pa {as : CE} {es : List Expr} (A : Args X q W as es) : PA X es (tA q W as) := by
  induction A with
  | nil => exact PA.dyn fun σ H Q ⟨env, μ, ι, G, R, S, c⟩ => ⟨_, pa_nil, c [] ι G H (Grow.refl ι G) R .nil⟩
  | cons h hp A ih =>
    rename_i a r e es
    refine PA.dyn fun σ H Q ⟨env, μ, ι, G, R, S, c⟩ => ⟨_, pa_cons h ih (pl_star hp es _), env, μ, ι, G, R, S, ?_⟩
    have c' : CtA q.T W σ ι G ((evE q.P q.call a env μ).bind fun d μ => (evA q.P q.call r env μ).bind fun ds μ => .ok (d :: ds) μ) Q := c
    refine GCt.bind c' fun d μ1 v ι1 G1 H1 _ g r1 rv c1 => ⟨env, μ1, ι1, G1, r1, S.mono g, GCt.bind c1 fun ds μ2 vs ι2 G2 H2 _ g2 r2 rl c2 => ?_⟩
    exact c2 _ ι2 G2 H2 (Grow.refl _ _) r2 (.cons (rv.mono g2) rl)
/-- a rule for texts' methods -/
theorem ty_str {b : BM} (hb : ∀ μ d, bmTy μ b d = true → ∃ x, d = .str x) {d : D} {μ : Store} (h : bmTy μ b d = true) (v : V) (ι : List Addr) (G H : Hp) (R : RelH q.T ι G μ H) (r : RepD q.T ι G v d) : tyV X.K "str" v H := by
  obtain ⟨x, rfl⟩ := hb μ d h
  cases r
  exact rfl
theorem bm_get {o as : CE} {e : Expr} {es : List Expr} {apos pos : Pos} (x : XOk q sc N W X) (h : PE X e (tE q W o)) (A : Args X q W as es) (b : MB X e es apos pos) (hle : es.length ≤ 2) : es ≠ [] → PE X (.Call (.Attribute e "get" apos) es [] pos) (tE q W (.bm .get o as)) := by
  intro ne
  have isd : ∀ (d : D) (μ : Store), bmTy μ .get d = true → ∀ v ι G H, RelH q.T ι G μ H → RepD q.T ι G v d → ∃ a, v = .ref a ∧ IsD H a := fun d μ hb v ι G H R r => by
    obtain ⟨⟨t, kvs⟩, hd⟩ := Option.isSome_iff_exists.mp hb
    obtain ⟨a, rfl, ⟨_, k, h1, _⟩ | ⟨_, k, h1, _⟩⟩ := R.dicOf r hd
    · exact ⟨a, rfl, .inl ⟨k, h1⟩⟩
    · exact ⟨a, rfl, .inr ⟨k, h1⟩⟩
  cases A with
  | nil => exact absurd rfl ne
  | cons h1 p1 A => cases A with
    | nil =>
      rename_i a1 e1
      refine PE.dyn fun σ H Q ⟨env, μ, ι, G, R, S, c⟩ => ⟨_, pe_dget1 x.hu1 h h1 b.m1, env, μ, ι, G, R, S, ?_⟩
      have c' : Ct q.T W σ ι G ((evE q.P q.call o env μ).bind fun d μ => if bmTy μ .get d then ((evE q.P q.call a1 env μ).bind fun d μ => .ok [d] μ).bind fun ds μ => bmS μ .get d ds else .bad) Q := c
      refine GCt.bind c' fun d μ1 v ι1 G1 H1 _ g r1 rv c1 => ?_
      split at c1
      · rename_i hb
        obtain ⟨a, ev, hi⟩ := isd d μ1 hb v ι1 G1 H1 r1 rv
        refine ⟨a, ev, hi, env, μ1, ι1, G1, r1, S.mono g, ?_⟩
        have c2 : Ct q.T W σ ι1 G1 ((evE q.P q.call a1 env μ1).bind fun k μ => bmS μ .get d [k]) Q := by
          cases he : evE q.P q.call a1 env μ1 with
          | ok k μ2 => rw [he] at c1; exact c1
          | ex k μ2 => rw [he] at c1; exact c1
          | bad => rw [he] at c1; exact c1
        refine GCt.bind c2 fun k μ2 y ι2 G2 H2 _ g2 r2 ry c3 => ?_
        cases hd : dicOf μ2 d with
        | none => simp only [bmS, hd] at c3; exact c3.elim
        | some p =>
          obtain ⟨t, kvs⟩ := p
          simp only [bmS, hd] at c3
          split at c3
          · rename_i hk
            obtain ⟨a2, o2, e2, hg, hv⟩ := key_at r2 (rv.mono g2) ry hd hk
            rw [ev] at e2
            cases e2
            refine ⟨o2, hg, ?_⟩
            cases hf : kfind kvs k with
            | none =>
              simp only [hf] at hv c3
              subst hv
              exact ct_val c3 r2 .non
            | some z =>
              simp only [hf] at hv c3
              obtain ⟨u, rfl, ru⟩ := hv
              exact ct_val c3 r2 ru
          · exact c3.elim
      · exact c1.elim
    | cons h2 p2 A => cases A with
      | nil =>
        rename_i a1 e1 a2 e2
        refine PE.dyn fun σ H Q ⟨env, μ, ι, G, R, S, c⟩ => ⟨_, pe_dget2 x.hu1 h h1 h2 b.m2, env, μ, ι, G, R, S, ?_⟩
        have c' : Ct q.T W σ ι G ((evE q.P q.call o env μ).bind fun d μ => if bmTy μ .get d then ((evE q.P q.call a1 env μ).bind fun d μ => ((evE q.P q.call a2 env μ).bind fun d μ => .ok [d] μ).bind fun ds μ => .ok (d :: ds) μ).bind fun ds μ => bmS μ .get d ds else .bad) Q := c
        refine GCt.bind c' fun d μ1 v ι1 G1 H1 _ g r1 rv c1 => ?_
        split at c1
        · rename_i hb
          obtain ⟨a, ev, hi⟩ := isd d μ1 hb v ι1 G1 H1 r1 rv
          refine ⟨a, ev, hi, env, μ1, ι1, G1, r1, S.mono g, ?_⟩
          have c2 : Ct q.T W σ ι1 G1 ((evE q.P q.call a1 env μ1).bind fun k μ => (evE q.P q.call a2 env μ).bind fun z μ => bmS μ .get d [k, z]) Q := by
            cases he : evE q.P q.call a1 env μ1 with
            | ok k μ2 =>
              rw [he] at c1
              simp only [Res.bind_ok] at c1 ⊢
              cases he2 : evE q.P q.call a2 env μ2 with
              | ok k μ2 => rw [he2] at c1; exact c1
              | ex k μ2 => rw [he2] at c1; exact c1
              | bad => rw [he2] at c1; exact c1
            | ex k μ2 => rw [he] at c1; exact c1
            | bad => rw [he] at c1; exact c1
          refine GCt.bind c2 fun k μ2 y ι2 G2 H2 _ g2 r2 ry c3 => ⟨env, μ2, ι2, G2, r2, (S.mono g).mono g2, GCt.bind c3 fun z μ3 w ι3 G3 H3 _ g3 r3 rw' c4 => ?_⟩
          cases hd : dicOf μ3 d with
          | none => simp only [bmS, hd] at c4; exact c4.elim
          | some p =>
            obtain ⟨t, kvs⟩ := p
            simp only [bmS, hd] at c4
            split at c4
            · rename_i hk
              obtain ⟨a2, o2, e2, hg, hv⟩ := key_at r3 ((rv.mono g2).mono g3) (ry.mono g3) hd hk
              rw [ev] at e2
              cases e2
              refine ⟨o2, hg, ?_⟩
              cases hf : kfind kvs k with
              | none =>
                simp only [hf] at hv c4
                subst hv
                exact ct_val c4 r3 rw'
              | some z =>
                simp only [hf] at hv c4
                obtain ⟨u, rfl, ru⟩ := hv
                exact ct_val c4 r3 ru
            · exact c4.elim
        · exact c1.elim
      | cons _ _ _ =>
        -- three arguments: never
        simp at hle
end Co

set_option linter.all false
set_option maxRecDepth 100000
set_option Elab.async false
/-! Co10: more methods. -/
namespace Co
open PySem L2
variable {q : Cq} {sc : Scope} {N : List Str} {W : WX} {X : Cx}
theorem mem_spl {S : List Nat} : ∀ (l : List Nat) (k : Nat) (acc : List Nat), ∀ p ∈ TL.spl S k acc l, ∀ c ∈ p, c ∈ acc ∨ c ∈ l
  | [], k, acc, p, hp, c, hc => by
    rw [TL.spl_nil, List.mem_singleton] at hp
    subst hp
    exact .inl hc
  | a :: r, k + 1, acc, p, hp, c, hc => by
    have h := mem_spl r k acc p hp c hc
    exact h.imp id (List.mem_cons_of_mem _)
  | a :: r, 0, acc, p, hp, c, hc => by
    cases e : TL.pre S (a :: r) with
    | true =>
      rw [TL.spl_hit e, List.mem_cons] at hp
      rcases hp with hp | hp
      · subst hp
        exact .inl hc
      · rcases mem_spl r _ [] p hp c hc with h | h
        · cases h
        · exact .inr (List.mem_cons_of_mem _ h)
    | false =>
      rw [TL.spl_miss e] at hp
      rcases mem_spl r _ _ p hp c hc with h | h
      · rcases List.mem_append.mp h with h | h
        · exact .inl h
        · rw [List.mem_singleton] at h
          exact .inr (by rw [h]; exact List.mem_cons_self)
      · exact .inr (List.mem_cons_of_mem _ h)
theorem ne_tl {y : Str} (h : (y.length == 0) = false) : TL.tl y ≠ [] := fun e => by
  have := TL.len_tl y
  rw [e] at this
  simp [this] at h
theorem strK_split {a b : Str} (h : strK a) (hb : (b.length == 0) = false) (hk : b.cps.all (· < 256) = true) : ∀ p ∈ Txt.split a b, strK p := by
  intro p hp c hc
  have e := TL.split_spl a b (ne_tl hb) (TL.kind_ok hk)
  have hm : TL.tl p ∈ (Txt.split a b).map TL.tl := List.mem_map_of_mem hp
  rw [e] at hm
  rcases mem_spl _ _ _ _ hm c hc with z | z
  · cases z
  · exact h c z
theorem RepL.strs {T : Nam} {ι : List Addr} {G : Hp} : ∀ {l : List Str}, (∀ x ∈ l, strK x) → RepL T ι G (l.map V.str) (l.map D.str)
  | [], _ => .nil
  | x :: r, h => .cons (.str (h x List.mem_cons_self)) (RepL.strs fun y hy => h y (List.mem_cons_of_mem _ hy))
theorem RepL.ints {T : Nam} {ι : List Addr} {G : Hp} : ∀ {l : List Int}, RepL T ι G (l.map V.int) (l.map D.int)
  | [] => .nil
  | x :: r => .cons (.int x) RepL.ints
theorem strs_of {T : Nam} {ι : List Addr} {G : Hp} : ∀ {v : List V} {d : List D} {l : List Str}, RepL T ι G v d → allStr d = some l → v = l.map V.str ∧ ∀ x ∈ l, strK x
  | _, _, _, .nil, h => by cases h; exact ⟨rfl, fun _ h => nomatch h⟩
  | _, _, _, .cons (d := d) hd r, h => by
    cases hd with
    | str k =>
      rename_i x
      unfold allStr at h
      cases e : allStr _ with
      | none => rw [e] at h; cases h
      | some m =>
        rw [e] at h
        cases h
        obtain ⟨h1, h2⟩ := strs_of r e
        exact ⟨by rw [h1]; rfl, fun y hy => (List.mem_cons.mp hy).elim (fun z => z ▸ k) (h2 y)⟩
    | _ => cases h
theorem ints_of {T : Nam} {ι : List Addr} {G : Hp} : ∀ {v : List V} {d : List D} {l : List Int}, RepL T ι G v d → allInt d = some l → v = l.map V.int
  | _, _, _, .nil, h => by cases h; rfl
  | _, _, _, .cons (d := d) hd r, h => by
    cases hd with
    | int i =>
      unfold allInt at h
      cases e : allInt _ with
      | none => rw [e] at h; cases h
      | some m =>
        rw [e] at h
        cases h
        rw [ints_of r e]
        rfl
    | _ => cases h
theorem mem_joinL {S : List Nat} : ∀ {l : List (List Nat)} {c : Nat}, c ∈ TL.joinL S l → c ∈ S ∨ ∃ p ∈ l, c ∈ p
  | [], c, h => by cases h
  | [p], c, h => .inr ⟨p, List.mem_singleton.mpr rfl, h⟩
  | p :: r :: s, c, h => by
    have h' : c ∈ p ++ (S ++ TL.joinL S (r :: s)) := h
    rcases List.mem_append.mp h' with z | z
    · exact .inr ⟨p, List.mem_cons_self, z⟩
    · rcases List.mem_append.mp z with z | z
      · exact .inl z
      · rcases mem_joinL z with z | ⟨x, hx, hc⟩
        · exact .inl z
        · exact .inr ⟨x, List.mem_cons_of_mem _ hx, hc⟩
theorem strK_join {a : Str} {l : List Str} (h : strK a) (hl : ∀ x ∈ l, strK x) : strK (Txt.join a l) := by
  intro c hc
  have e : (Txt.join a l).cps.toList = TL.joinL (TL.tl a) (l.map TL.tl) := by
    rw [TL.join_eq]
    exact TL.tl_join a l
  rw [e] at hc
  rcases mem_joinL hc with z | ⟨p, hp, z⟩
  · exact h c z
  · obtain ⟨x, hx, rfl⟩ := List.mem_map.mp hp
    exact hl x hx c z
theorem one_str {o as : CE} {b : BM} {name : Str} {id : String} {r : V → List V → Hp → VK → Prop} {e : Expr} {es : List Expr} {apos pos : Pos} (x : XOk q sc N W X) (h : PE X e (tE q W o)) (A : Args X q W as es) (mb : MB X e es apos pos) (ne : es ≠ [])
    (slot : Slot "str" name id) (hty : typeOf (.builtin id) = pure (.type "method_descriptor")) (hm : MtR X id r) (hb : ∀ μ d, bmTy μ b d = true → ∃ x, d = .str x)
    (op : ∀ (σ : L2.St) (Q : VK) d ds μ2 v vs ι G H, RelH q.T ι G μ2 H → RepD q.T ι G v d → RepL q.T ι G vs ds → Ct q.T W σ ι G (bmS μ2 b d ds) Q → r v vs H Q) : PE X (.Call (.Attribute e name apos) es [] pos) (tE q W (.bm b o as)) := by
  cases A with
  | nil => exact absurd rfl ne
  | cons h1 p1 A =>
    have A' := Args.cons h1 p1 A
    exact PE.dyn fun σ H Q ⟨env, μ, ι, G, R, S, c⟩ => ⟨_, pe_bm PySem.F.plainAttrs_str slot hty hm h A'.pa (att_base mb.hs _ _ _) (few_ok mb.hp mb.hf) mb.hl (pl_star p1 _ _) (pl_any A.pl), bm_tbm R S c (fun d μ1 => ty_str hb) fun d ds μ2 v vs ι2 G2 H2 => op σ Q d ds μ2 v vs ι2 G2 H2⟩
theorem bm_split {o as : CE} {e : Expr} {es : List Expr} {apos pos : Pos} (x : XOk q sc N W X) (h : PE X e (tE q W o)) (A : Args X q W as es) (mb : MB X e es apos pos) (ne : es ≠ []) : PE X (.Call (.Attribute e "split" apos) es [] pos) (tE q W (.bm .split o as)) := by
  refine one_str x h A mb ne PySem.F.slot_str_split PySem.F.type_str_split mt_split (fun μ d hb => by cases d <;> first | exact ⟨_, rfl⟩ | cases hb) fun σ Q d ds μ2 v vs ι G H R rv rl c => ?_
  cases rv with
  | str k1 => cases rl with
    | nil => exact c.elim
    | cons rd rl => cases rl with
      | cons _ _ => cases rd <;> exact c.elim
      | nil => cases rd with
        | str k2 =>
          rename_i a b
          have c' : Ct q.T W σ ι G (if !(b.length == 0) && b.cps.all (· < 256) && sz (a.length + 2) then .ok (.lst ((Txt.split a b).map D.str)) μ2 else .bad) Q := c
          split at c'
          · rename_i hz
            rw [Bool.and_eq_true, Bool.and_eq_true, Bool.not_eq_true'] at hz
            exact ⟨a, b, rfl, rfl, hz.1.1, flip_len hz.2, fun p hp => ct_new c' R _ hp fun G' g e => .lst (.inl e) (RepL.strs (strK_split k1 hz.1.1 hz.1.2))⟩
          · exact c'.elim
        | _ => exact c.elim
  | _ => exact c.elim
theorem bm_startswith {o as : CE} {e : Expr} {es : List Expr} {apos pos : Pos} (x : XOk q sc N W X) (h : PE X e (tE q W o)) (A : Args X q W as es) (mb : MB X e es apos pos) (ne : es ≠ []) : PE X (.Call (.Attribute e "startswith" apos) es [] pos) (tE q W (.bm .startswith o as)) := by
  refine one_str x h A mb ne PySem.F.slot_str_startswith PySem.F.type_str_startswith mt_startswith (fun μ d hb => by cases d <;> first | exact ⟨_, rfl⟩ | cases hb) fun σ Q d ds μ2 v vs ι G H R rv rl c => ?_
  cases rv with
  | str k1 => cases rl with
    | nil => exact c.elim
    | cons rd rl => cases rl with
      | cons _ _ => cases rd <;> exact c.elim
      | nil => cases rd with
        | str k2 => exact ⟨_, _, rfl, rfl, ct_val c R (.bl _)⟩
        | _ => exact c.elim
  | _ => exact c.elim
theorem bm_join {o as : CE} {e : Expr} {es : List Expr} {apos pos : Pos} (x : XOk q sc N W X) (h : PE X e (tE q W o)) (A : Args X q W as es) (mb : MB X e es apos pos) (ne : es ≠ []) : PE X (.Call (.Attribute e "join" apos) es [] pos) (tE q W (.bm .join o as)) := by
  refine one_str x h A mb ne PySem.F.slot_str_join PySem.F.type_str_join mt_join (fun μ d hb => by cases d <;> first | exact ⟨_, rfl⟩ | cases hb) fun σ Q d ds μ2 v vs ι G H R rv rl c => ?_
  cases rv with
  | str k1 => cases rl with
    | nil => exact c.elim
    | cons rd rl => cases rl with
      | cons _ _ => exact c.elim
      | nil =>
        rename_i a v1 d1
        cases hs : (seqOf μ2 d1).bind allStr with
        | none => simp only [bmS, hs] at c; exact c.elim
        | some xs =>
          simp only [bmS, hs] at c
          split at c
          · rename_i hz
            obtain ⟨ds, h1, h2⟩ := Option.bind_eq_some_iff.mp hs
            obtain ⟨p, us, rfl, h3, h4⟩ := R.seqOf rd h1
            obtain ⟨rfl, h6⟩ := strs_of h4 h2
            exact ⟨a, p, xs, rfl, rfl, by rw [x.eK]; exact h3, of_decide_eq_true hz, ct_val c R (.str (strK_join k1 h6))⟩
          · exact c.elim
  | _ => exact c.elim
theorem indexOf_at {d : D} {n : Nat} : ∀ {xs : List D} {j : Nat}, indexOf d xs = some j → (∃ x, xs[j]? = some x ∧ x.eqv d = true) ∧ ∀ m x, m < j → xs[m]? = some x → x.eqv d = false
  | [], j, h => by cases h
  | x :: r, j, h => by
    unfold indexOf at h
    split at h
    · rename_i hx
      cases h
      exact ⟨⟨x, rfl, hx⟩, fun m _ hm => absurd hm (Nat.not_lt_zero m)⟩
    · rename_i hx
      cases e : indexOf d r with
      | none => rw [e] at h; cases h
      | some i =>
        rw [e] at h
        cases h
        obtain ⟨⟨y, h1, h2⟩, h3⟩ := indexOf_at (n := n) e
        refine ⟨⟨y, by simpa using h1, h2⟩, fun m z hm hz => ?_⟩
        cases m with
        | zero => simp at hz; subst hz; simpa using hx
        | succ m => exact h3 m z (Nat.lt_of_succ_lt_succ hm) (by simpa using hz)
theorem toPys_get : ∀ {xs : List D} {j : Nat}, (toPys xs)[j]? = (xs[j]?).map toPy
  | [], j => by simp [toPys]
  | x :: r, 0 => by simp [toPys]
  | x :: r, j + 1 => by simp [toPys, toPys_get (xs := r) (j := j)]
theorem dats_get {n : Nat} : ∀ {xs : List D} {j : Nat} {x : D}, D.dats n xs = true → xs[j]? = some x → x.dat n = true
  | [], j, _, _, h => by simp at h
  | x :: r, j, y, h, e => by
    unfold D.dats at h
    rw [Bool.and_eq_true] at h
    cases j with
    | zero => simp at e; subst e; exact h.1
    | succ j => exact dats_get h.2 (by simpa using e)
theorem bm_index {o as : CE} {e : Expr} {es : List Expr} {apos pos : Pos} (x : XOk q sc N W X) (h : PE X e (tE q W o)) (A : Args X q W as es) (mb : MB X e es apos pos) (ne : es ≠ []) : PE X (.Call (.Attribute e "index" apos) es [] pos) (tE q W (.bm .index o as)) := by
  cases A with
  | nil => exact absurd rfl ne
  | cons h1 p1 A =>
    have A' := Args.cons h1 p1 A
    refine PE.dyn fun σ H Q ⟨env, μ, ι, G, R, S, c⟩ => ⟨_, pe_bm PySem.F.plainAttrs_list PySem.F.slot_list_index PySem.F.type_list_index (mt_indexD (by have := x.room.un; omega)) h A'.pa (att_base mb.hs _ _ _) (few_ok mb.hp mb.hf) mb.hl (pl_star p1 _ _) (pl_any A.pl), bm_tbm R S c (fun d μ1 hb => ty_list x.eK hb) fun d ds μ2 v vs ι2 G2 H2 r2 rv rl c2 => ?_⟩
    cases rl with
    | nil => cases d <;> exact c2.elim
    | cons rd rl => cases rl with
      | cons _ _ => cases d <;> exact c2.elim
      | nil =>
        rename_i v1 d1
        cases hl : lstOf μ2 d with
        | none => simp only [bmS, hl] at c2; exact c2.elim
        | some xs =>
          simp only [bmS, hl] at c2
          split at c2
          · rename_i hd
            rw [Bool.and_eq_true] at hd
            cases hi : indexOf d1 xs with
            | none => rw [hi] at c2; exact c2.elim
            | some j =>
              rw [hi] at c2
              obtain ⟨a, us, rfl, e1, e2⟩ := r2.lstOf rv hl
              obtain ⟨s1, s2, s3⟩ := dps_of r2.fz e2 hd.1
              obtain ⟨p1, p2, p3⟩ := dp_of r2.fz rd hd.2
              obtain ⟨⟨z, z1, z2⟩, z3⟩ := indexOf_at (n := 0) hi
              refine ⟨a, v1, toPy d1, toPys xs, j, toPy z, rfl, rfl, by rw [x.eK]; exact .lst (.inl e1) s1, by rw [x.eK]; exact p1, shaped_of (n := 60) (by unfold PyData.canLay0; exact s2) (by unfold PyData.depth; omega) (by decide), shaped_of p2 p3 (by decide), by rw [toPys_get, z1]; rfl, by rw [eqv_py z d1 (dats_get hd.1 z1) hd.2]; exact z2, fun m w hm hw => ?_, ct_val c2 r2 (.int _)⟩
              rw [toPys_get] at hw
              obtain ⟨y, hy, rfl⟩ := Option.map_eq_some_iff.mp hw
              rw [eqv_py y d1 (dats_get hd.1 hy) hd.2]
              exact z3 m y hm hy
          · exact c2.elim
/-- a list lengthened by another, any that may be read -/
def rExtR : V → List V → Hp → VK → Prop := fun x vs H Q => ∃ l b xs zs, x = .ref l ∧ vs = [V.ref b] ∧ H l = some (.lst xs) ∧ Rd H b (.lst zs) ∧ xs.length + zs.length ≤ sizeLine ∧ Q .non (upd H l (.lst (xs ++ zs)))
theorem mt_extR : MtM X "list.extend" rExtR := by
  intro pins s σ H x vs v us Q I rx rv h
  obtain ⟨l, b, xs, zs, rfl, rfl, hH, hB, hz, q⟩ := h
  cases rx
  obtain ⟨u, rfl, ru⟩ := rv.one
  cases ru
  obtain ⟨z, its, n, r, hl, e⟩ := I.lstM hH
  obtain ⟨z2, its2, n2, r2, e2⟩ := hB.ok I.hok
  have hl2 := r2.length
  have hsz : its.toArray.size + its2.toArray.size ≤ sizeLine := by rw [List.size_toArray, List.size_toArray]; omega
  have hlong : ¬ (!its.toArray.isEmpty && Builtin.List.listTooLong (its.toArray.size + its2.toArray.size)) = true := by
    rw [notLongL hsz, Bool.and_false]
    exact Bool.false_ne_true
  refine call_meets F.slot_list_extend ⟨_, e, rfl⟩ F.entry_list_extend (F.args_list_extend_2 _ _)
    (AutoSeq1.list_extend_list_list_0 l its.toArray n b its2.toArray n2 hlong (by rw [List.size_toArray]; omega) (by omega)) ⟨e, e2, ?_⟩
  refine ⟨.non, _, I.lset (its' := its ++ its2) hH e (by simp) (r.append r2) ?_, rfl, q⟩
  rw [List.length_append]
  omega
theorem bm_extend {o as : CE} {e : Expr} {es : List Expr} {apos pos : Pos} (x : XOk q sc N W X) (h : PE X e (tE q W o)) (ha : PA X es (tA q W as)) (b : MB X e es apos pos) (ne : es ≠ []) : PE X (.Call (.Attribute e "extend" apos) es [] pos) (tE q W (.bm .extend o as)) := by
  cases es with
  | nil => exact absurd rfl ne
  | cons e1 es =>
    have hp := b.hp
    rw [List.all_cons, Bool.and_eq_true] at hp
    refine PE.dyn fun σ H Q ⟨env, μ, ι, G, R, S, c⟩ => ⟨_, pe_bm PySem.F.plainAttrs_list PySem.F.slot_list_extend PySem.F.type_list_extend mt_extR h ha (att_base b.hs _ _ _) (few_ok b.hp b.hf) b.hl (pl_star hp.1 es _) (pl_any hp.2), bm_tbm R S c (fun d μ1 hb => ty_list x.eK hb) fun d ds μ2 v vs ι2 G2 H2 r2 rv rl c2 => ?_⟩
    cases d with
    | cell i => cases rl with
      | cons rd rl => cases rl with
        | nil =>
          rename_i v1 d1
          cases hc : μ2[i]? with
          | none => simp only [bmS, hc] at c2; exact c2.elim
          | some cc => cases cc with
            | lst xs =>
              obtain ⟨a, us, rfl, e1, e2, e3, e4⟩ := cell_lst r2 rv hc
              cases hl : lstOf μ2 d1 with
              | none => simp only [bmS, hc, hl] at c2; exact c2.elim
              | some ys =>
                obtain ⟨a2, us2, rfl, f1, f2⟩ := r2.lstOf rd hl
                simp only [bmS, hc, hl] at c2
                split at c2
                · rename_i hz
                  refine ⟨a, a2, us, us2, rfl, rfl, e3, f1, ?_, ct_write r2 e1 hc rfl (.lst e2 upd_same (e4.append f2)) c2⟩
                  have := flip_len hz
                  rw [e4.length, f2.length]
                  exact this
                · exact c2.elim
            | _ => simp only [bmS, hc] at c2; exact c2.elim
        | cons _ _ => exact c2.elim
      | nil => exact c2.elim
    | _ => exact c2.elim
/-- a list's cell is emptied -/
theorem bm_clear {o : CE} {e : Expr} {apos pos : Pos} (x : XOk q sc N W X) (h : PE X e (tE q W o)) (hs : noSup e = true) (hl : (apos.endLine == pos.line) = true) : PE X (.Call (.Attribute e "clear" apos) [] [] pos) (tE q W (.bm .clear o .anil)) := by
  refine PE.dyn fun σ H Q ⟨env, μ, ι, G, R, S, c⟩ => ?_
  have c' : Ct q.T W σ ι G ((evE q.P q.call o env μ).bind fun d μ => if bmTy μ .clear d then bmS μ .clear d [] else .bad) Q := c
  have main : ∀ (T : String) (r : V → List V → Hp → VK → Prop), (∀ d μ1, evE q.P q.call o env μ = .ok d μ1 → ∀ v ι G H, RelH q.T ι G μ1 H → RepD q.T ι G v d → Ct q.T W σ ι G (bmS μ1 .clear d []) Q → tyV X.K T v H ∧ r v [] H Q) → tBM0 X.K T r (tE q W o) σ H Q := fun T r hr => by
    refine ⟨env, μ, ι, G, R, S, GCt.bind c' fun d μ1 v ι1 G1 H1 he g r1 rv c1 => ?_⟩
    split at c1
    · exact hr d μ1 he v ι1 G1 H1 r1 rv c1
    · exact c1.elim
  have lst : PE X (.Call (.Attribute e "clear" apos) [] [] pos) (tBM0 X.K "list" rClear (tE q W o)) := pe_bm0 PySem.F.plainAttrs_list PySem.F.slot_list_clear PySem.F.type_list_clear mt_clear h (att_base hs _ _ _) hl
  refine ⟨_, lst, ?_⟩
  refine main _ _ fun d μ1 he v ι1 G1 H1 r1 rv c1 => ?_
  cases d with
  | cell i =>
    cases hc : μ1[i]? with
    | none => simp only [bmS, hc] at c1; exact c1.elim
    | some cc => cases cc with
      | lst xs =>
        obtain ⟨a, us, rfl, e1, e2, e3, e4⟩ := cell_lst r1 rv hc
        simp only [bmS, hc] at c1
        exact ⟨.inl ⟨rfl, us, .inl (.inl e3)⟩, a, us, rfl, rfl, e3, ct_write r1 e1 hc rfl (.lst e2 upd_same .nil) c1⟩
      | _ => simp only [bmS, hc] at c1; exact c1.elim
  | _ => exact c1.elim
end Co

set_option linter.all false
set_option maxRecDepth 100000
set_option Elab.async false
/-! Co11: built-ins called, subscripts, slices, displays. -/
namespace Co
open PySem L2
variable {q : Cq} {sc : Scope} {N : List Str} {W : WX} {X : Cx}
/-- what a rule of a built-in is worth -/
def Bi1 (q : Cq) (W : WX) (b : BI) (ds : List D) (μ : Store) (r : List V → Hp → VK → Prop) : Prop :=
  ∀ (σ : L2.St) (Q : VK) (vs : List V) (ι : List Addr) (G H : Hp), RelH q.T ι G μ H → RepL q.T ι G vs ds → Ct q.T W σ ι G (biS μ b ds) Q → r vs H Q
def biName : BI → Str
  | .len => "len"
  | .str => "str"
  | .int => "int"
  | .list _ => "list"
  | .tuple => "tuple"
  | .dict _ => "dict"
  | .lenset => "len"
  | .sorted _ => "sorted"
  | .sum => "sum"
  | .abs => "abs"
  | .min => "min"
  | .max => "max"
  | .divmod => "divmod"
def biVal : BI → Value
  | .len => .builtin "len"
  | .str => .type "str"
  | .int => .type "int"
  | .list _ => .type "list"
  | .tuple => .type "tuple"
  | .dict _ => .type "dict"
  | .lenset => .builtin "len"
  | .sorted _ => .builtin "sorted"
  | .sum => .builtin "sum"
  | .abs => .builtin "abs"
  | .min => .builtin "min"
  | .max => .builtin "max"
  | .divmod => .builtin "divmod"
/-- those that are served -/
def biOk : BI → Bool
  | .len => true
  | .str => true
  | .int => true
  | .list _ => true
  | .dict _ => true
  | .tuple => true
  | .sum => true
  | .abs => true
  | .min => true
  | .max => true
  | _ => false
theorem sqv {K : PySem.W.Frag} {H : Hp} {a : Addr} {vs : List V} (h : SqL K H a vs ∨ SqT K H a vs) {n : Nat} (e : n = vs.length) : LenV K (.ref a) H n := by
  rcases h with h | h
  · exact .inl ⟨vs, h, e⟩
  · exact .inr ⟨vs, h, e⟩
theorem strK_of (s : String) : strK (Str.ofString s) := fun c hc => by
  have e : (Str.ofString s).cps.toList = s.toList.map Char.toNat := TL.tl_ofString s
  rw [e] at hc
  obtain ⟨ch, _, rfl⟩ := List.mem_map.mp hc
  have h := ch.valid
  have e2 : ch.toNat = ch.val.toNat := rfl
  rw [e2]
  rcases h with h | ⟨_, h⟩
  · exact Nat.lt_of_lt_of_le h (by decide)
  · exact h
theorem digits_ok (i : Int) : strK (Str.ofString (toString i)) := strK_of _
/-- put as told: frozen, or in a cell -/
theorem ct_put {T : Nam} {W : WX} {σ : L2.St} {ι : List Addr} {G H : Hp} {μ : Store} {Q : VK} {fz : Bool} {xs : List D} {vs : List V} (c : Ct T W σ ι G (put μ fz (.lst xs)) Q) (R : RelH T ι G μ H) (r : RepL T ι G vs xs) {p : Addr} (h : H p = none) : Q (.ref p) (upd H p (.lst vs)) := by
  cases fz with
  | true => exact ct_new c R _ h fun G' g e => .lst (.inl e) (r.mono g)
  | false =>
    have R2 := R.cell (c := .lst xs) (o := .lst vs) h (.lst (R.fz.free h) upd_same r)
    exact c (.ref p) (ι ++ [p]) G _ (Grow.cell ι G p) R2 (.cell (by rw [← R.len]; simp))
/-- what a built-in hands out stays as it is -/
def rPin (r : List V → Hp → VK → Prop) : List V → Hp → VK → Prop := fun vs H Q => r vs H fun v H' => ∃ d u, H' d = some u ∧ Mut (some u) ∧ ∀ od, Q v (upd H' d (.frz od u))
theorem cr_pin {f : Value} {r : List V → Hp → VK → Prop} (h : CallR X f r) : CallR X f (rPin r) := fun pins s σ H xs us Q I rv q =>
  thn (h pins s σ H xs us _ I rv q) fun v s1 ⟨x, H1, I1, r1, d, u, hd, mu, k⟩ => by
    obtain ⟨od, I2⟩ := I1.lock hd mu
    exact ⟨x, _, I2, r1, k od⟩
theorem isKey_rep {T : Nam} {ι : List Addr} {G : Hp} {v : V} {d : D} (r : RepD T ι G v d) (h : d.isKey = true) : ∃ k, v = kV k ∧ d = kD k ∧ keyK k := key_of r h
theorem pairs_rep {T : Nam} {ι : List Addr} {G H : Hp} (f : Fz G H) : ∀ {vs : List V} {ds : List D} {kvs : List (D × D)}, RepL T ι G vs ds → pairsD ds = some kvs →
    ∃ (ps : List Addr) (kv : List (L2.Key × V)), vs = ps.map V.ref ∧ Paired (fun p (kv : L2.Key × V) => SqT T.K H p [kV kv.1, kv.2]) ps kv ∧ RepK T ι G kv kvs
  | _, _, _, .nil, h => by cases h; exact ⟨[], [], rfl, .nil, .nil⟩
  | _, _, _, .cons hd r, h => by
    cases hd with
    | tup e l => cases l with
      | nil => cases h
      | cons h1 l => cases l with
        | nil => cases h
        | cons h2 l => cases l with
          | cons _ _ => cases h
          | nil =>
            unfold pairsD at h
            split at h
            · rename_i hk
              obtain ⟨m, hm, rfl⟩ := Option.map_eq_some_iff.mp h
              obtain ⟨ps, kv, rfl, p2, p3⟩ := pairs_rep f r hm
              obtain ⟨k, rfl, rfl, kk⟩ := key_of h1 hk
              exact ⟨_ :: ps, (k, _) :: kv, rfl, .cons (.inl (.inl (f.tup e))) p2, .cons kk h2 p3⟩
            · cases h
    | _ => cases h
theorem merge_rep {T : Nam} {ι : List Addr} {G : Hp} : ∀ {kv : List (L2.Key × V)} {kvs : List (D × D)} {av : List (L2.Key × V)} {ad : List (D × D)}, RepK T ι G kv kvs → RepK T ι G av ad → RepK T ι G (mergeK av kv) (mergeD ad kvs)
  | _, _, _, _, .nil, a => a
  | _, _, _, _, .cons (k := k) (v := v) (vs := vs) (d := d) (ds := ds) kk h r, a =>
    show RepK T ι G (mergeK (putK _ k v) vs) (mergeD (kput _ (kD k) d) ds) from merge_rep r (a.put k kk h)
theorem bi_rule (x : XOk q sc N W X) {b : BI} (hk : biOk b = true) {ds : List D} {μ : Store} (hb : biS μ b ds ≠ .bad) : ∃ r, CallR X (biVal b) r ∧ Bi1 q W b ds μ r := by
  cases b <;> first | cases hk | skip
  · -- len
    cases ds with
    | nil => exact absurd rfl hb
    | cons d ds => cases ds with
      | cons _ _ => exact absurd rfl hb
      | nil =>
        cases hl : lenOf μ d with
        | none => simp only [biS, hl] at hb; exact absurd rfl hb
        | some n =>
          refine ⟨_, call_len, fun σ Q vs ι G H R rl c => ?_⟩
          cases rl with
          | cons rd rl => cases rl with
            | nil =>
              simp only [biS, hl] at c
              rename_i v
              refine ⟨v, n, rfl, ?_, ct_val c R (.int _)⟩
              rw [x.eK]
              cases hs : seqOf μ d with
              | some xs =>
                obtain ⟨a, us, rfl, h1, h2⟩ := R.seqOf rd hs
                have e : n = xs.length := by cases rd <;> simp_all [lenOf]
                exact sqv h1 (by rw [e, h2.length])
              | none =>
                cases rd with
                | str k =>
                  rename_i z
                  simp only [lenOf] at hl
                  split at hl
                  · rename_i hz
                    cases hl
                    exact ⟨flip_len hz, rfl⟩
                  · cases hl
                | _ => simp [lenOf, hs] at hl
  · -- str
    cases ds with
    | nil => exact absurd rfl hb
    | cons d ds => cases ds with
      | cons _ _ => cases d <;> exact absurd rfl hb
      | nil => cases d with
        | int i =>
          refine ⟨_, call_str_int, fun σ Q vs ι G H R rl c => ?_⟩
          cases rl with
          | cons rd rl => cases rl with
            | nil => cases rd with
              | int i =>
                simp only [biS] at c
                split at c
                · rename_i hz
                  exact ⟨i, rfl, of_decide_eq_true hz, ct_val c R (.str (digits_ok i))⟩
                · exact c.elim
        | _ => exact absurd rfl hb
  · -- int
    cases ds with
    | nil => exact absurd rfl hb
    | cons d ds => cases ds with
      | cons _ _ => cases d <;> exact absurd rfl hb
      | nil => cases d with
        | int i =>
          refine ⟨_, call_int1, fun σ Q vs ι G H R rl c => ?_⟩
          cases rl with
          | cons rd rl => cases rl with
            | nil => cases rd with
              | int i => exact .inl ⟨i, rfl, ct_val c R (.int _)⟩
        | bl b =>
          refine ⟨_, call_int1, fun σ Q vs ι G H R rl c => ?_⟩
          cases rl with
          | cons rd rl => cases rl with
            | nil => cases rd with
              | bl b => exact .inr ⟨b, rfl, ct_val c R (.int _)⟩
        | str z =>
          refine ⟨_, call_int_str, fun σ Q vs ι G H R rl c => ?_⟩
          cases rl with
          | cons rd rl => cases rl with
            | nil => cases rd with
              | str k =>
                simp only [biS] at c
                split at c
                · rename_i hz
                  cases hi : PySem.intText? z with
                  | none => rw [hi] at c; exact c.elim
                  | some n =>
                    rw [hi] at c
                    exact ⟨z, n, rfl, hi, of_decide_eq_true hz, ct_val c R (.int _)⟩
                · exact c.elim
        | _ => exact absurd rfl hb
  · -- list
    rename_i fz
    cases ds with
    | nil => exact absurd rfl hb
    | cons d ds => cases ds with
      | cons _ _ => exact absurd rfl hb
      | nil =>
        cases hs : seqOf μ d with
        | some xs =>
          refine ⟨_, call_list_of, fun σ Q vs ι G H R rl c => ?_⟩
          cases rl with
          | cons rd rl => cases rl with
            | nil =>
              simp only [biS, hs] at c
              obtain ⟨a, us, rfl, h1, h2⟩ := R.seqOf rd hs
              exact ⟨a, us, rfl, by rw [x.eK]; exact h1, fun l hl => ct_put c R h2 hl⟩
        | none => simp only [biS, hs] at hb; exact absurd rfl hb
  · -- tuple
    cases ds with
    | nil => exact absurd rfl hb
    | cons d ds => cases ds with
      | cons _ _ => cases d <;> exact absurd rfl hb
      | nil =>
        refine ⟨_, call_tuple_of, fun σ Q vs ι G H R rl c => ?_⟩
        cases rl with
        | cons rd rl => cases rl with
          | nil =>
            have viaL : ∀ (v : V) (d : D) xs, RepD q.T ι G v d → lstOf μ d = some xs → Ct q.T W σ ι G (.ok (.tup xs) μ) Q → (∃ p ys, [v] = [V.ref p] ∧ ((SqL X.K H p ys ∧ ∀ l, H l = none → Q (.ref l) (upd H l (.tup ys))) ∨ (SqT X.K H p ys ∧ Q (.ref p) H))) := fun v d xs rd hl c2 => by
              obtain ⟨a, us, rfl, h1, h2⟩ := R.lstOf rd hl
              exact ⟨a, us, rfl, .inl ⟨.inl h1, fun l hn => ct_new c2 R _ hn fun G' g e => .tup e (h2.mono g)⟩⟩
            cases rd with
            | tup e1 l => exact ⟨_, _, rfl, .inr ⟨.inl (.inl (R.fz.tup e1)), ct_val c R (.tup e1 l)⟩⟩
            | wtup e1 l => exact ⟨_, _, rfl, .inr ⟨by rw [x.eK]; exact R.fz.sqt e1, ct_val c R (.wtup e1 l)⟩⟩
            | lst e1 l => exact viaL _ _ _ (.lst e1 l) rfl c
            | cell hi =>
              rename_i a i
              cases hl : lstOf μ (.cell i) with
              | none => simp only [biS, hl] at c; exact c.elim
              | some xs => simp only [biS, hl] at c; exact viaL _ _ xs (.cell hi) hl c
            | _ => exact c.elim
  · -- dict
    rename_i fz
    cases ds with
    | nil => exact absurd rfl hb
    | cons d ds => cases ds with
      | cons _ _ => exact absurd rfl hb
      | nil =>
        cases hl : (lstOf μ d).bind pairsD with
        | none => simp only [biS, hl] at hb; exact absurd rfl hb
        | some kvs =>
          obtain ⟨xs, h1, h2⟩ := Option.bind_eq_some_iff.mp hl
          have pre : ∀ (vs : List V) (ι : List Addr) (G H : Hp), RelH q.T ι G μ H → RepL q.T ι G vs [d] → ∃ (a : Addr) (ps : List Addr) (kv : List (L2.Key × V)), vs = [.ref a] ∧ SqL X.K H a (ps.map V.ref) ∧ Paired (fun p (kv : L2.Key × V) => SqT X.K H p [kV kv.1, kv.2]) ps kv ∧ RepK q.T ι G (mergeK [] kv) (mergeD [] kvs) := fun vs ι G H R rl => by
            cases rl with
            | cons rd rl => cases rl with
              | nil =>
                obtain ⟨a, us, rfl, e1, e2⟩ := R.lstOf rd h1
                obtain ⟨ps, kv, rfl, p2, p3⟩ := pairs_rep R.fz e2 h2
                exact ⟨a, ps, kv, rfl, .inl e1, by rw [x.eK]; exact p2, merge_rep p3 .nil⟩
          cases fz with
          | true =>
            refine ⟨_, cr_pin (call_dictP x.calm), fun σ Q vs ι G H R rl c => ?_⟩
            obtain ⟨a, ps, kv, e1, e2, e3, e4⟩ := pre vs ι G H R rl
            simp only [biS, hl] at c
            refine ⟨a, ps, kv, e1, e2, e3, fun p hp => ⟨p, _, upd_same, trivial, fun od => ?_⟩⟩
            rw [upd_upd]
            exact ct_new c R _ hp fun G' g e => .dicK e (e4.mono g)
          | false =>
            refine ⟨_, call_dictP x.calm, fun σ Q vs ι G H R rl c => ?_⟩
            obtain ⟨a, ps, kv, e1, e2, e3, e4⟩ := pre vs ι G H R rl
            simp only [biS, hl] at c
            refine ⟨a, ps, kv, e1, e2, e3, fun p hp => ?_⟩
            exact c (.ref p) (ι ++ [p]) G _ (Grow.cell ι G p) (R.cell (c := .dic false _) hp (.dicK (R.fz.free hp) upd_same e4)) (.cell (by rw [← R.len]; simp))
  · -- sum
    cases ds with
    | nil => exact absurd rfl hb
    | cons d ds => cases ds with
      | cons _ _ => exact absurd rfl hb
      | nil =>
        refine ⟨_, cr_sum x.calm, fun σ Q vs ι G H R rl c => ?_⟩
        cases rl with
        | cons rd rl => cases rl with
          | nil =>
            cases hs : (lstOf μ d).bind allInt with
            | none => simp only [biS, hs] at c; exact c.elim
            | some ns =>
              simp only [biS, hs] at c
              obtain ⟨xs, h1, h2⟩ := Option.bind_eq_some_iff.mp hs
              obtain ⟨a, us, rfl, h3, h4⟩ := R.lstOf rd h1
              rw [ints_of h4 h2] at h3
              exact ⟨a, ns, rfl, .inl h3, ct_val c R (.int _)⟩
  · -- abs
    cases ds with
    | nil => exact absurd rfl hb
    | cons d ds => cases ds with
      | cons _ _ => cases d <;> exact absurd rfl hb
      | nil =>
        refine ⟨_, call_abs, fun σ Q vs ι G H R rl c => ?_⟩
        cases rl with
        | cons rd rl => cases rl with
          | nil => cases rd with
            | int i => exact ⟨i, rfl, ct_val c R (.int _)⟩
            | _ => exact c.elim
  · -- min
    refine ⟨_, call_min2 x.calm, fun σ Q vs ι G H R rl c => ?_⟩
    cases rl with
    | nil => exact c.elim
    | cons rd rl => cases rl with
      | nil => cases rd <;> exact c.elim
      | cons rd2 rl => cases rl with
        | cons _ _ => cases rd <;> cases rd2 <;> exact c.elim
        | nil => cases rd with
          | int i => cases rd2 with
            | int j => exact ⟨i, j, rfl, ct_val c R (.int _)⟩
            | _ => exact c.elim
          | _ => exact c.elim
  · -- max
    refine ⟨_, call_max2 x.calm, fun σ Q vs ι G H R rl c => ?_⟩
    cases rl with
    | nil => exact c.elim
    | cons rd rl => cases rl with
      | nil => cases rd <;> exact c.elim
      | cons rd2 rl => cases rl with
        | cons _ _ => cases rd <;> cases rd2 <;> exact c.elim
        | nil => cases rd with
          | int i => cases rd2 with
            | int j => exact ⟨i, j, rfl, ct_val c R (.int _)⟩
            | _ => exact c.elim
          | _ => exact c.elim
/-- a built-in called -/
theorem boot_ok {b : BI} (h : biOk b = true) : bootBuiltins (biName b) = some (biVal b) := by
  cases b <;> first | exact Bool.noConfusion h | decide +kernel | (rename_i fz; cases fz <;> decide +kernel)
theorem bi_blt {b : BI} (h : biOk b = true) : biName b ∈ blts := by
  cases b <;> first | exact Bool.noConfusion h | decide | (rename_i fz; cases fz <;> decide)
theorem bi_dbg {b : BI} (h : biOk b = true) : dbgB (biName b) = false := by
  cases b <;> first | exact Bool.noConfusion h | decide +kernel | (rename_i fz; cases fz <;> decide +kernel)
theorem se_bi {as : CE} {es : List Expr} {b : BI} {p pos : Pos} (x : XOk q sc N W X) (hk : biOk b = true) (hg : glB sc (biName b) = true) (A : Args X q W as es) (ne : es ≠ []) : PE X (.Call (.Name (biName b) p) es [] pos) (tE q W (.bi b as)) := by
  cases A with
  | nil => exact absurd rfl ne
  | cons h1 p1 A =>
    rename_i a1 r e1 es
    have A' := Args.cons h1 p1 A
    have mkP : ∀ r, CallR X (biVal b) r → PE X (.Call (.Name (biName b) p) (e1 :: es) [] pos) (tCB r (tA q W (.acons a1 _))) := fun r hr => by
      have hv := boot_ok hk
      cases hb : biVal b with
      | builtin id =>
        rw [hb] at hv hr
        exact pe_callB hr (x.gl hg) (x.lk.blt _ (bi_blt hk)) hv A'.pa (dbg3 (bi_dbg hk)) (dbg1 (bi_dbg hk)) (pl_star p1 _ _) (pl_any A.pl)
      | type t =>
        rw [hb] at hv hr
        exact pe_callTy hr (x.gl hg) (x.lk.blt _ (bi_blt hk)) hv A'.pa (dbg3 (bi_dbg hk)) (dbg1 (bi_dbg hk)) (pl_star p1 _ _) (pl_any A.pl)
      | _ => cases b <;> cases hb
    refine PE.dyn fun σ H Q ⟨env, μ, ι, G, R, S, c⟩ => ?_
    have c' : Ct q.T W σ ι G ((evA q.P q.call (.acons a1 _) env μ).bind fun ds μ => biS μ b ds) Q := c
    have go : ∀ r, (∀ ds μ1, evA q.P q.call (.acons a1 _) env μ = .ok ds μ1 → Bi1 q W b ds μ1 r) → tCB r (tA q W (.acons a1 _)) σ H Q := fun r hr =>
      ⟨env, μ, ι, G, R, S, GCt.bind c' fun ds μ1 vs ι1 G1 H1 he g r1 rl c1 => hr ds μ1 he σ Q vs ι1 G1 H1 r1 rl c1⟩
    cases he : evA q.P q.call (.acons a1 _) env μ with
    | bad => rw [he] at c'; exact c'.elim
    | ex y μ1 => exact ⟨_, mkP (fun _ _ _ => False) (fun _ _ _ _ _ _ _ _ _ h => h.elim), go _ fun ds μ1 z => by rw [he] at z; cases z⟩
    | ok ds μ1 =>
      rw [he] at c'
      obtain ⟨r, h1, h2⟩ := bi_rule (q := q) (W := W) x hk (ds := ds) (μ := μ1) c'.ok
      exact ⟨_, mkP r h1, go r fun ds' μ1' z => by rw [he] at z; cases z; exact h2⟩
/-! ### subscripts, slices -/
theorem atI_ok {T : Nam} {ι : List Addr} {G : Hp} {vs : List V} {ds : List D} (r : RepL T ι G vs ds) {i : Int} {d : D} (h : atI ds i = some d) : ∃ v, atI vs i = some v ∧ RepD T ι G v d := by
  unfold atI at h ⊢
  rw [r.length]
  obtain ⟨j, h1, h2⟩ := Option.bind_eq_some_iff.mp h
  obtain ⟨v, h3, h4⟩ := r.get h2
  exact ⟨v, by rw [h1]; exact h3, h4⟩
theorem atI_mem {l : List Nat} {i : Int} {c : Nat} (h : atI l i = some c) : c ∈ l := by
  unfold atI at h
  obtain ⟨j, h1, h2⟩ := Option.bind_eq_some_iff.mp h
  exact List.mem_of_getElem? h2
theorem strK1 {c : Nat} (h : c < 0x110000) : strK ⟨#[c]⟩ := fun d hd => by
  have : d = c := by simpa using hd
  rw [this]
  exact h
theorem se_ix {a b : CE} {e i : Expr} {pos : Pos} (x : XOk q sc N W X) (ha : PE X e (tE q W a)) (hb : PE X i (tE q W b)) (hp : plE i = true) (hs : NoSl i) : PE X (.Subscript e i pos) (tE q W (.ix a b)) := by
  refine two_ok (f := fun d e μ => ixS μ d e) ⟨_, pe_ix ix_list ha hb (pl_ix hp)⟩ (fun d e μ hb0 => ?_) fun σ H Q ⟨env, μ, ι, G, R, S, c⟩ => ⟨env, μ, ι, G, R, S, c⟩
  cases hd : dicOf μ d with
  | some p =>
    obtain ⟨t, kvs⟩ := p
    refine ⟨fun x y H Q => ∃ a v, x = .ref a ∧ DGet H a y (some v) ∧ Q v H, pe_dget x.hu1 ha hb hs, fun v y ι G H σ Q R r1 r2 c => ?_⟩
    have c' : Ct q.T W σ ι G (ixS μ d e) Q := c
    simp only [ixS, hd] at c'
    split at c'
    · rename_i hk
      obtain ⟨d2, hf, c2⟩ := c'.ofO
      obtain ⟨a2, o, rfl, h2, h3⟩ := key_at R r1 r2 hd hk
      simp only [hf] at h3
      obtain ⟨u, rfl, ru⟩ := h3
      exact ⟨a2, u, rfl, h2, ct_val c2 R ru⟩
    · exact c'.elim
  | none =>
    cases e with
    | int j =>
      cases hd2 : seqOf μ d with
      | some xs =>
        refine ⟨rIx X.K, pe_ix ix_seq ha hb (pl_ix hp), fun v y ι G H σ Q R r1 r2 c => ?_⟩
        have c' : Ct q.T W σ ι G (ixS μ d (.int j)) Q := c
        have e1 : ixS μ d (.int j) = ofO (atI xs j) μ := by cases d <;> simp_all [ixS, seqOf, dicOf, lstOf]
        rw [e1] at c'
        obtain ⟨d2, hf, c2⟩ := c'.ofO
        obtain ⟨a2, us, rfl, h2, h3⟩ := R.seqOf r1 hd2
        obtain ⟨u, hu, ru⟩ := atI_ok h3 hf
        cases r2
        rcases h2 with h2 | h2
        · exact .inl ⟨a2, us, j, u, rfl, rfl, by rw [x.eK]; exact h2, hu, ct_val c2 R ru⟩
        · exact .inr (.inl ⟨a2, us, j, u, rfl, rfl, by rw [x.eK]; exact h2, hu, ct_val c2 R ru⟩)
      | none =>
        cases d with
        | str z =>
          refine ⟨rIxS, pe_ix ix_str ha hb (pl_ix hp), fun v y ι G H σ Q R r1 r2 c => ?_⟩
          have c' : Ct q.T W σ ι G (if sz z.length then ofO ((atI z.cps.toList j).map fun c => .str ⟨#[c]⟩) μ else .bad) Q := c
          split at c'
          · rename_i hz
            obtain ⟨d2, hf, c2⟩ := c'.ofO
            obtain ⟨ch, h1, rfl⟩ := Option.map_eq_some_iff.mp hf
            cases r1 with
            | str k =>
              cases r2
              exact ⟨z, j, ch, rfl, rfl, flip_len hz, h1, ct_val c2 R (.str (strK1 (k ch (atI_mem h1))))⟩
          · exact c'.elim
        | tup _ => cases hd2
        | wtup _ => cases hd2
        | lst _ => cases hd2
        | _ => exact absurd (by simp [ixS, hd, hd2]) hb0
    | _ => exact absurd (by simp [ixS, hd]) hb0
end Co

set_option linter.all false
set_option maxRecDepth 100000
set_option Elab.async false
/-! Co12: the other expressions. -/
namespace Co
open PySem L2
variable {q : Cq} {sc : Scope} {N : List Str} {W : WX} {X : Cx}
/-! ### isinstance -/
theorem kd_of {T : Nam} {ι : List Addr} {G H : Hp} {μ : Store} (R : RelH T ι G μ H) {v : V} {d : D} (r : RepD T ι G v d) {k : Kd} (h : kindOf μ d = some k) :
    (∃ n, k = .ty n ∧ n ∈ ["NoneType", "bool", "int", "str", "tuple", "list", "dict"] ∧ TyX T.K H v (.type n)) ∨ ∃ c a dx fs, k = .own c ∧ v = .ref a ∧ H a = some (.ins (T.cA c) dx fs) := by
  cases r with
  | non => cases h; exact .inl ⟨_, rfl, by decide, .base .non⟩
  | bl b => cases h; exact .inl ⟨_, rfl, by decide, .base (.bl b)⟩
  | int b => cases h; exact .inl ⟨_, rfl, by decide, .base (.int b)⟩
  | str b => cases h; exact .inl ⟨_, rfl, by decide, .base (.str _)⟩
  | tup e l => cases h; exact .inl ⟨_, rfl, by decide, .base (.tup (R.fz.tup e))⟩
  | wtup e l =>
    cases h
    refine .inl ⟨_, rfl, by decide, ?_⟩
    rcases R.fz.sqt e with (z | ⟨o, z⟩) | ⟨o, its, n, z1, z2, _⟩
    · exact .base (.tup z)
    · exact .fTuple z
    · exact .kTuple z1 z2
  | lst e l =>
    cases h
    refine .inl ⟨_, rfl, by decide, ?_⟩
    rcases R.fz.rdl e with z | ⟨o, z⟩
    · exact .base (.lst z)
    · exact .base (.frz z)
  | dicK e l =>
    cases h
    refine .inl ⟨_, rfl, by decide, ?_⟩
    exact .fDict (R.fz.dk e)
  | dicT e l => cases h
  | ins e l => cases h; exact .inr ⟨_, _, _, _, rfl, rfl, R.fz.ins e⟩
  | cell hi =>
    rename_i a i
    cases hc : μ[i]? with
    | none => simp only [kindOf, hc] at h; cases h
    | some c =>
      have hca := R.cel i a c hi hc
      cases hca with
      | dead => simp only [kindOf, hc] at h; cases h
      | lst h1 h2 h3 => simp only [kindOf, hc] at h; cases h; exact .inl ⟨_, rfl, by decide, .base (.lst h2)⟩
      | dicK h1 h2 h3 => simp only [kindOf, hc] at h; cases h; exact .inl ⟨_, rfl, by decide, .base (.dK h2)⟩
      | dicT h1 h2 h3 => simp only [kindOf, hc] at h; cases h; exact .inl ⟨_, rfl, by decide, .base (.dT h2)⟩
      | ins h1 h2 h3 => simp only [kindOf, hc] at h; cases h; exact .inr ⟨_, _, _, _, rfl, rfl, h2⟩
      | ldicK h1 h2 h3 => simp only [kindOf, hc] at h; cases h
      | ldicT h1 h2 h3 => simp only [kindOf, hc] at h; cases h
theorem tyx_of (x : XOk q sc N W X) {ι : List Addr} {G H : Hp} {μ : Store} (R : RelH q.T ι G μ H) {v : V} {d : D} (r : RepD q.T ι G v d) {k : Kd} (h : kindOf μ d = some k) (hk : kdOk q k = true) : TyX q.T.K H v (kdV q k) := by
  rcases kd_of R r h with ⟨n, rfl, _, h2⟩ | ⟨c, a, dx, fs, rfl, rfl, h3⟩
  · exact h2
  · exact .base (x.lk.ity c hk H a dx fs h3)
/-- the class that is named in isinstance -/
def tyName : Ty → Str
  | .own _ => ""
  | .int => "int"
  | .bool => "bool"
  | .str => "str"
  | .list => "list"
  | .tuple => "tuple"
  | .dict => "dict"
def okTy (q : Cq) (sc : Scope) (t : Ty) : Expr → Bool
  | .Name x _ => glB sc x && !dbgB x && (match t with
    | .own c => decide (q.tx.cnm.lookup x = some c) && decide (c < q.P.sub.length)
    | t => decide (x = tyName t))
  | _ => false
theorem isi_lit (t : Ty) (ht : ∀ c, t ≠ .own c) : tyName t ∈ blts ∧ bootBuiltins (tyName t) = some (.type (tyN t)) := by
  cases t with
  | own c => exact absurd rfl (ht c)
  | int => exact ⟨by decide, by decide +kernel⟩
  | bool => exact ⟨by decide, by decide +kernel⟩
  | str => exact ⟨by decide, by decide +kernel⟩
  | list => exact ⟨by decide, by decide +kernel⟩
  | tuple => exact ⟨by decide, by decide +kernel⟩
  | dict => exact ⟨by decide, by decide +kernel⟩
def tyVV (q : Cq) : Ty → V
  | .own c => .ref (q.T.cA c)
  | t => .ty (tyN t)
theorem clsV_ty (q : Cq) (t : Ty) : ClsV (tyVV q t) (tyV' q t) := by cases t <;> constructor
theorem pe_ty (x : XOk q sc N W X) {t : Ty} {e : Expr} (h : okTy q sc t e = true) : PE X e (tC (tyVV q t)) ∧ plE e = true ∧ tyOk q t = true := by
  cases e <;> first | exact Bool.noConfusion h | skip
  rename_i y pos
  simp only [okTy, Bool.and_eq_true, Bool.not_eq_true'] at h
  refine ⟨?_, rfl, ?_⟩
  · have main : ∀ t : Ty, (∀ c, t ≠ .own c) → y = tyName t → PE X (.Name y pos) (tC (.ty (tyN t))) := fun t ht e => by
      have k := isi_lit t ht
      subst e
      exact pe_bltn (x.gl h.1.1) (x.lk.blt _ k.1) k.2 rfl (dbg3 h.1.2) (dbg1 h.1.2)
    cases t with
    | own c =>
      simp only [decide_eq_true_eq, Bool.and_eq_true] at h
      exact pe_glob (x.gl h.1.1) (x.lk.cls _ _ h.2.1) rfl (dbg1 h.1.2)
    | int => exact main .int (fun c z => by cases z) (of_decide_eq_true h.2)
    | bool => exact main .bool (fun c z => by cases z) (of_decide_eq_true h.2)
    | str => exact main .str (fun c z => by cases z) (of_decide_eq_true h.2)
    | list => exact main .list (fun c z => by cases z) (of_decide_eq_true h.2)
    | tuple => exact main .tuple (fun c z => by cases z) (of_decide_eq_true h.2)
    | dict => exact main .dict (fun c z => by cases z) (of_decide_eq_true h.2)
  · cases t with
    | own c => simp only [Bool.and_eq_true] at h; exact h.2.2
    | _ => rfl
theorem isi_one (x : XOk q sc N W X) {μ : Store} {d : D} {t : Ty} {b : Bool} (h : isi q.P.sub μ d t = some b) {ι : List Addr} {G H : Hp} (R : RelH q.T ι G μ H) {v : V} (r : RepD q.T ι G v d) :
    ∃ k, kindOf μ d = some k ∧ b = isiK q.P.sub k t ∧ kdOk q k = true ∧ TyX q.T.K H v (kdV q k) := by
  unfold isi at h
  obtain ⟨k, h1, h2⟩ := Option.bind_eq_some_iff.mp h
  split at h2
  · rename_i hk
    cases h2
    have hk2 : kdOk q k = true := by
      rcases kd_of R r h1 with ⟨n, rfl, hn, _⟩ | ⟨c, a, dx, fs, rfl, rfl, h3⟩
      · unfold kdOk
        simpa using hn
      · unfold kdOk
        have := of_decide_eq_true hk
        exact decide_eq_true this
    exact ⟨k, h1, rfl, hk2, tyx_of x R r h1 hk2⟩
  · cases h2
theorem isi_any (x : XOk q sc N W X) {μ : Store} {d : D} {ι : List Addr} {G H : Hp} (R : RelH q.T ι G μ H) {v : V} (r : RepD q.T ι G v d) : ∀ {ts : List Ty} {b : Bool}, ts.all (tyOk q) = true → isiS q.P.sub μ d ts = some b → ts ≠ [] →
    ∃ k, kindOf μ d = some k ∧ kdOk q k = true ∧ TyX q.T.K H v (kdV q k) ∧ PySem.W.kitAny q.T.K (kdV q k) (ts.map (tyV' q)) = some b
  | [], _, _, _, hn => absurd rfl hn
  | t :: ts, b, ha, h, _ => by
    rw [List.all_cons, Bool.and_eq_true] at ha
    unfold isiS at h
    rw [List.foldr_cons] at h
    cases h1 : isi q.P.sub μ d t with
    | none => rw [h1] at h; cases h
    | some c =>
      obtain ⟨k, k1, k2, k3, k4⟩ := isi_one x h1 R r
      have e1 := x.lk.kit k t k3 ha.1
      rw [← k2] at e1
      refine ⟨k, k1, k3, k4, ?_⟩
      rw [h1] at h
      cases c with
      | true =>
        cases h
        exact kitAny_cons e1 (fun z => by cases z) fun _ => rfl
      | false =>
        have h' : isiS q.P.sub μ d ts = some b := h
        refine kitAny_cons e1 (fun _ => ?_) fun z => by cases z
        cases ts with
        | nil => cases h'; exact kitAny_nil
        | cons t2 ts =>
          obtain ⟨k', k1', _, _, k4'⟩ := isi_any x R r ha.2 h' (by simp)
          rw [k1] at k1'
          cases k1'
          exact k4'
def okTys (q : Cq) (sc : Scope) : List Ty → List Expr → Bool
  | [], [] => true
  | t :: ts, e :: es => okTy q sc t e && okTys q sc ts es
  | _, _ => false
theorem pa_tys (x : XOk q sc N W X) : ∀ {ts : List Ty} {es : List Expr}, okTys q sc ts es = true → ∃ t, PA X es t ∧ (∀ σ H Q, Q (ts.map (tyVV q)) H → t σ H Q) ∧ es.all plE = true ∧ ts.all (tyOk q) = true
  | [], [], _ => ⟨_, pa_nil, fun σ H Q h => h, rfl, rfl⟩
  | t :: ts, e :: es, h => by
    unfold okTys at h
    rw [Bool.and_eq_true] at h
    obtain ⟨p1, p2, p3⟩ := pe_ty x h.1
    obtain ⟨u, u1, u2, u3, u4⟩ := pa_tys x h.2
    exact ⟨_, pa_cons p1 u1 (pl_star p2 es _), fun σ H Q hq => u2 σ H _ hq, by rw [List.all_cons, p2, u3]; rfl, by rw [List.all_cons, p3, u4]; rfl⟩
  | [], _ :: _, h => by cases h
  | _ :: _, [], h => by cases h
theorem paired_ty (q : Cq) : ∀ ts : List Ty, Paired ClsV (ts.map (tyVV q)) (ts.map (tyV' q))
  | [] => .nil
  | t :: ts => .cons (clsV_ty q t) (paired_ty q ts)
/-- the types in isinstance: one, or a tuple of them -/
def okIsi (q : Cq) (sc : Scope) (ts : List Ty) : Expr → Bool
  | .Tuple es _ _ => okTys q sc ts es && !ts.isEmpty && decide (ts.length ≤ 100)
  | e => match ts with
    | [t] => okTy q sc t e
    | _ => false
theorem se_isi {a : CE} {ts : List Ty} {e e2 : Expr} {p pos : Pos} (x : XOk q sc N W X) (hg : glB sc "isinstance" = true) (h : PE X e (tE q W a)) (hp : plE e = true) (hi : okIsi q sc ts e2 = true) :
    PE X (.Call (.Name "isinstance" p) [e, e2] [] pos) (tE q W (.isi a ts)) := by
  have mkP : ∀ (r : List V → Hp → VK → Prop) t2, CallR X (.builtin "isinstance") r → PE X e2 t2 → plE e2 = true → PE X (.Call (.Name "isinstance" p) [e, e2] [] pos) (tCB r (tCons (tE q W a) (tCons t2 tNil))) := fun r t2 hr h2 p2 =>
    pe_callB hr (x.gl hg) (x.lk.blt _ (by decide)) (by decide +kernel) (pa_cons h (pa_cons h2 pa_nil (pl_star p2 _ _)) (pl_star hp _ _)) (by decide) (by decide) (pl_star hp _ _) (pl_any (by rw [List.all_cons, p2]; rfl))
  have c0 : ∀ {σ : L2.St} {Q : VK} {env : Env} {μ : Store} {ι : List Addr} {G : Hp}, Ct q.T W σ ι G (evE q.P q.call (.isi a ts) env μ) Q → Ct q.T W σ ι G ((evE q.P q.call a env μ).bind fun d μ => ofO ((isiS q.P.sub μ d ts).map D.bl) μ) Q := fun h => h
  have split1 : ∀ e2, okIsi q sc ts e2 = true → (∃ es k pp, e2 = .Tuple es k pp) ∨ ∃ t, ts = [t] ∧ okTy q sc t e2 = true := fun e2 hi => by
    cases e2 with
    | Tuple es k pp => exact .inl ⟨es, k, pp, rfl⟩
    | _ =>
      refine .inr ?_
      unfold okIsi at hi
      simp only at hi
      split at hi
      · exact ⟨_, rfl, hi⟩
      · cases hi
  rcases split1 e2 hi with ⟨es, k, pp, rfl⟩ | ⟨t, rfl, ht⟩
  · simp only [okIsi, Bool.and_eq_true, Bool.not_eq_true', List.isEmpty_eq_false_iff, decide_eq_true_eq] at hi
    obtain ⟨u, u1, u2, u3, u4⟩ := pa_tys x hi.1.1
    refine PE.dyn fun σ H Q ⟨env, μ, ι, G, R, S, c⟩ => ⟨_, mkP _ _ call_isiT (pe_tup u1) rfl, env, μ, ι, G, R, S, GCt.bind (c0 c) fun d μ1 v ι1 G1 H1 _ g r1 rv c1 => u2 _ _ _ ⟨?_, fun tp hn => ?_⟩⟩
    · rw [List.length_map]
      exact Nat.le_trans hi.2 (by decide)
    · obtain ⟨b', hb, c2⟩ := c1.ofO
      obtain ⟨b, hb2, rfl⟩ := Option.map_eq_some_iff.mp hb
      have r2 := r1.other (.tup (ts.map (tyVV q))) hn
      obtain ⟨k, k1, k2, k3, k4⟩ := isi_any x r2 rv u4 hb2 hi.1.2
      refine ⟨v, tp, ts.map (tyVV q), kdV q k, ts.map (tyV' q), b, rfl, upd_same, paired_ty q ts, by rw [x.eK]; exact k3, by rw [x.eK]; exact k4, ct_val c2 r2 (.bl b)⟩
  · obtain ⟨p1, p2, p3⟩ := pe_ty x ht
    refine PE.dyn fun σ H Q ⟨env, μ, ι, G, R, S, c⟩ => ⟨_, mkP _ _ call_isi p1 p2, env, μ, ι, G, R, S, GCt.bind (c0 c) fun d μ1 v ι1 G1 H1 _ g r1 rv c1 => ?_⟩
    obtain ⟨b', hb, c2⟩ := c1.ofO
    obtain ⟨b, hb2, rfl⟩ := Option.map_eq_some_iff.mp hb
    have h1 : isi q.P.sub μ1 d t = some b := by
      unfold isiS at hb2
      rw [List.foldr_cons, List.foldr_nil] at hb2
      cases h1 : isi q.P.sub μ1 d t with
      | none => rw [h1] at hb2; cases hb2
      | some c => rw [h1] at hb2; cases c <;> exact hb2
    obtain ⟨k, k1, k2, k3, k4⟩ := isi_one x h1 r1 rv
    have e1 := x.lk.kit k t k3 p3
    rw [← k2] at e1
    exact ⟨v, tyVV q t, kdV q k, tyV' q t, b, rfl, clsV_ty q t, by rw [x.eK]; exact k4, by rw [x.eK]; exact e1, ct_val c2 r1 (.bl b)⟩
end Co

set_option linter.all false
set_option maxRecDepth 100000
set_option Elab.async false
/-! Co13: names, constants, truth, slices, displays. -/
namespace Co
open PySem L2
variable {q : Cq} {sc : Scope} {N : List Str} {W : WX} {X : Cx}
/-! ### names, constants -/
theorem se_var {i : Nat} {y : Str} {pos : Pos} (x : XOk q sc N W X) (hN : N[i]? = some y) (hv : visB sc y = true) (hd : dbgB y = false) : PE X (.Name y pos) (tE q W (.var i)) := by
  refine PE.dyn fun σ H Q ⟨env, μ, ι, G, R, S, c⟩ => ⟨_, pe_var (i := i) (by rw [x.eN]; exact hN) (x.vis hv) (dbg1 hd) (dbg2 hd), ?_⟩
  obtain ⟨d, h1, c2⟩ := GCt.ofO (o := getV env i) c
  obtain ⟨v, h2, h3⟩ := S.at_ i d (getV_some h1)
  exact ⟨v, h2, ct_val c2 R h3⟩
theorem se_glo {j : Nat} {y : Str} {pos : Pos} (x : XOk q sc N W X) (hg : glB sc y = true) (hl : q.tx.gnm.lookup y = some j) (hd : dbgB y = false) : PE X (.Name y pos) (tE q W (.glo j)) := by
  refine PE.dyn fun σ H Q ⟨env, μ, ι, G, R, S, c⟩ => ?_
  obtain ⟨d, h1, c2⟩ := GCt.ofO (o := q.P.consts[j]?) c
  obtain ⟨v, u, hm, hr, hrep⟩ := x.lk.con y j d hl h1
  exact ⟨_, pe_glob (x.gl hg) hm hr (dbg1 hd), ct_val c2 R (hrep ι G)⟩
def litB : Const → D → Bool
  | .none, d => decide (d = .non)
  | .bool b, d => decide (d = .bl b)
  | .int i, d => decide (d = .int i)
  | .str x, d => decide (d = .str x) && x.cps.toList.all fun c => decide (c < 0x110000)
  | _, _ => false
theorem se_lit {k : Const} {d : D} {j : Nat} {pos : Pos} (h : litB k d = true) : PE X (.Constant k j pos) (tE q W (.lit d)) := by
  cases k <;> first | exact Bool.noConfusion h | skip
  · have e := of_decide_eq_true h
    subst e
    exact PE.dyn fun σ H Q ⟨env, μ, ι, G, R, S, c⟩ => ⟨_, pe_non, ct_val c R .non⟩
  · have e := of_decide_eq_true h
    subst e
    exact PE.dyn fun σ H Q ⟨env, μ, ι, G, R, S, c⟩ => ⟨_, pe_bl, ct_val c R (.bl _)⟩
  · have e := of_decide_eq_true h
    subst e
    exact PE.dyn fun σ H Q ⟨env, μ, ι, G, R, S, c⟩ => ⟨_, pe_int, ct_val c R (.int _)⟩
  · simp only [litB, Bool.and_eq_true] at h
    have e := of_decide_eq_true h.1
    subst e
    exact PE.dyn fun σ H Q ⟨env, μ, ι, G, R, S, c⟩ => ⟨_, pe_str, ct_val c R (.str fun c hc => of_decide_eq_true (List.all_eq_true.mp h.2 c hc))⟩
/-! ### operators -/
theorem se_bin {o : BinO} {op : Operator} {a b : CE} {e f : Expr} {pos : Pos} (x : XOk q sc N W X) (ho : oBin op = some o) (ha : PE X e (tE q W a)) (hb : PE X f (tE q W b)) : PE X (.BinOp e op f pos) (tE q W (.bin o a b)) := by
  refine two_ok (f := fun d e μ => binS μ o d e) ⟨fun _ _ _ _ => False, pe_op (fun _ _ _ _ _ _ _ _ _ _ _ _ h => h.elim) ha hb⟩ (fun d e μ hb0 => ?_) fun σ H Q ⟨env, μ, ι, G, R, S, c⟩ => ⟨env, μ, ι, G, R, S, c⟩
  obtain ⟨R, h1, h2⟩ := bin_op (q := q) (W := W) (X := X) ho d e μ hb0
  exact ⟨R, pe_op h1 ha hb, h2⟩
theorem se_neg {a : CE} {e : Expr} {pos : Pos} (ha : PE X e (tE q W a)) : PE X (.UnaryOp .USub e pos) (tE q W (.neg a)) := by
  refine PE.dyn fun σ H Q ⟨env, μ, ι, G, R, S, c⟩ => ⟨_, pe_un un_neg ha, env, μ, ι, G, R, S, ?_⟩
  have c' : Ct q.T W σ ι G ((evE q.P q.call a env μ).bind fun d μ => match d with
    | .int i => .ok (.int (-i)) μ
    | _ => .bad) Q := c
  refine GCt.bind c' fun d μ1 v ι1 G1 H1 _ g r rv c1 => ?_
  cases rv with
  | int i => exact ⟨i, rfl, ct_val c1 r (.int _)⟩
  | _ => exact c1.elim
/-- a comparison: as a value, and as a test -/
theorem cmp_both {o : CmpO} {op : CmpOp} {a b : CE} {e f : Expr} {pos : Pos} (x : XOk q sc N W X) (ho : oCmp op = some o) (ha : PE X e (tE q W a)) (hb : PE X f (tE q W b)) (hp : plE f = true) {σ : L2.St} {H : Hp} {env : Env} {μ : Store} {ι : List Addr} {G : Hp} (R : RelH q.T ι G μ H) (S : RelS q.T ι G env σ)
    {Q : VK} (c : Ct q.T W σ ι G (evE q.P q.call (.cmp o a b) env μ) Q) : ∃ R2, CmpX X op e f R2 ∧ tOp R2 (tE q W a) (tE q W b) σ H Q := by
  have c' : Ct q.T W σ ι G ((evE q.P q.call a env μ).bind fun d μ => (evE q.P q.call b env μ).bind fun e μ => ofO ((cmpS μ o d e).map D.bl) μ) Q := c
  have hu : X.A.units + 100 < cLine := by have := x.room.un; omega
  have main : ∀ R2 : R2, (∀ d μ1 e μ2 b', evE q.P q.call a env μ = .ok d μ1 → evE q.P q.call b env μ1 = .ok e μ2 → cmpS μ2 o d e = some b' → Cmp2 q μ2 R2 d e b') → tOp R2 (tE q W a) (tE q W b) σ H Q := fun R2 hr =>
    ⟨env, μ, ι, G, R, S, GCt.bind c' fun d μ1 v ι1 G1 H1 ea g1 r1 d1 c1 => ⟨env, μ1, ι1, G1, r1, S.mono g1, GCt.bind c1 fun e μ2 y ι2 G2 H2 eb g2 r2 d2 c2 => by
      obtain ⟨b2, hb2, c3⟩ := c2.ofO
      obtain ⟨b3, hb3, rfl⟩ := Option.map_eq_some_iff.mp hb2
      exact hr d μ1 e μ2 b3 ea eb hb3 v y ι2 G2 H2 Q r2 (d1.mono g2) d2 (ct_val c3 r2 (.bl _))⟩⟩
  have triv : CmpX X op e f (fun _ _ _ _ => False) := cmpx_op (fun _ _ _ _ _ _ _ _ _ _ _ _ h => h.elim) e f
  cases ea : evE q.P q.call a env μ with
  | bad => rw [ea] at c'; exact c'.elim
  | ex y μ1 => exact ⟨_, triv, main _ fun d μ1 e μ2 b' z => by rw [ea] at z; cases z⟩
  | ok d μ1 => cases eb : evE q.P q.call b env μ1 with
    | bad => rw [ea, Res.bind_ok, eb] at c'; exact c'.elim
    | ex y μ2 => exact ⟨_, triv, main _ fun d' μ1' e μ2 b' z1 z2 => by rw [ea] at z1; cases z1; rw [eb] at z2; cases z2⟩
    | ok e2 μ2 =>
      rw [ea, Res.bind_ok, eb, Res.bind_ok] at c'
      obtain ⟨b2, hb2, _⟩ := c'.ofO
      obtain ⟨b3, hb3, rfl⟩ := Option.map_eq_some_iff.mp hb2
      obtain ⟨R2, h1, h2⟩ := cmp_op (q := q) (X := X) hu x.eK ho hb3 e f
      refine ⟨R2, h1, main R2 fun d' μ1' e' μ2' b' z1 z2 z3 => ?_⟩
      rw [ea] at z1
      cases z1
      rw [eb] at z2
      cases z2
      rw [hb3] at z3
      cases z3
      exact h2
theorem se_cmp {o : CmpO} {op : CmpOp} {a b : CE} {e f : Expr} {pos : Pos} (x : XOk q sc N W X) (ho : oCmp op = some o) (ha : PE X e (tE q W a)) (hb : PE X f (tE q W b)) (hp : plE f = true) : PE X (.Compare e [op] [f] pos) (tE q W (.cmp o a b)) := by
  refine PE.dyn fun σ H Q ⟨env, μ, ι, G, R, S, c⟩ => ?_
  obtain ⟨R2, h1, h2⟩ := cmp_both (pos := pos) x ho ha hb hp R S c
  exact ⟨_, (h1 _ _ pos ha hb hp).1, h2⟩
theorem bOf_bl {r : RD} {f : D → Store → RD} (h : ∀ d μ, f d μ = .bad ∨ ∃ b, f d μ = .ok (.bl b) μ) : True := trivial
/-- from a test on a value that is True or False -/
theorem test_bl {T : Nam} {W : WX} {σ : L2.St} {ι : List Addr} {G : Hp} {r : RD} {Q : Bool → Hp → Prop} (c : GCt T RepB W σ ι G (bOf r) Q) : Ct T W σ ι G r (fun v H => ∀ k, v = .bl k → Q k H) := by
  cases r with
  | ok d μ =>
    intro v ι' G' H g R rv k hk
    subst hk
    cases rv
    exact c k ι' G' H g R rfl
  | ex y μ => exact c
  | bad => exact c
theorem st_cmp {o : CmpO} {op : CmpOp} {a b : CE} {e f : Expr} {pos : Pos} (x : XOk q sc N W X) (ho : oCmp op = some o) (ha : PE X e (tE q W a)) (hb : PE X f (tE q W b)) (hp : plE f = true) : PT X (.Compare e [op] [f] pos) (tT q W (.cmp o a b)) := by
  refine PT.dyn fun σ H Q ⟨env, μ, ι, G, R, S, c⟩ => ?_
  -- the value is a truth
  have c2 : Ct q.T W σ ι G (evE q.P q.call (.cmp o a b) env μ) (fun v H => ∃ k, v = .bl k ∧ Q k H) := by
    have e0 : evE q.P q.call (.cmp o a b) env μ = (evE q.P q.call a env μ).bind fun d μ => (evE q.P q.call b env μ).bind fun e μ => ofO ((cmpS μ o d e).map D.bl) μ := rfl
    rw [e0] at c ⊢
    cases ea : evE q.P q.call a env μ with
    | bad => rw [ea] at c; exact c
    | ex y μ1 => rw [ea] at c; exact c
    | ok d μ1 =>
      rw [ea] at c
      simp only [Res.bind_ok] at c ⊢
      cases eb : evE q.P q.call b env μ1 with
      | bad => rw [eb] at c; exact c
      | ex y μ2 => rw [eb] at c; exact c
      | ok e2 μ2 =>
        rw [eb] at c
        simp only [Res.bind_ok] at c ⊢
        cases hc : cmpS μ2 o d e2 with
        | none => rw [hc] at c; exact c
        | some b2 =>
          rw [hc] at c
          intro v ι' G' H' g R' rv
          cases rv
          exact ⟨_, rfl, c b2 ι' G' H' g R' rfl⟩
  obtain ⟨R2, h1, h2⟩ := cmp_both (pos := pos) x ho ha hb hp R S c2
  exact ⟨_, (h1 _ _ pos ha hb hp).2, h2⟩
/-! ### truth -/
theorem tru_of {T : Nam} {ι : List Addr} {G H : Hp} {μ : Store} (R : RelH T ι G μ H) {v : V} {d : D} (r : RepD T ι G v d) {b : Bool} (h : truth μ d = some b) : TruV T.K v H b := by
  have viaL : ∀ (v : V) (d : D) xs, RepD T ι G v d → lstOf μ d = some xs → b = !xs.isEmpty → TruV T.K v H b := fun v d xs rd hl e => by
    obtain ⟨a, us, rfl, h1, h2⟩ := R.lstOf rd hl
    refine .inl ⟨us, .inl h1, ?_⟩
    rw [e]
    have := h2.length
    cases us <;> cases xs <;> simp_all
  have emp : ∀ (us : List V) (xs : List D), RepL T ι G us xs → (!us.isEmpty) = !xs.isEmpty := fun us xs r => by
    have := r.length
    cases us <;> cases xs <;> simp_all
  cases r with
  | non => cases h; rfl
  | bl c => cases h; rfl
  | int i => cases h; rfl
  | str k =>
    simp only [truth] at h
    split at h
    · rename_i hz
      cases h
      refine ⟨flip_len hz, ?_⟩
      rename_i y
      cases hy : y.length with
      | zero => rfl
      | succ n =>
        show (n + 1 != 0) = (((n + 1 : Nat) : Int) != 0)
        have : ((n + 1 : Nat) : Int) ≠ 0 := by omega
        simp [bne, this]
        omega
    · cases h
  | tup e l => cases h; exact .inr (.inl ⟨_, .inl (.inl (R.fz.tup e)), (emp _ _ l).symm⟩)
  | wtup e l => cases h; exact .inr (.inl ⟨_, R.fz.sqt e, (emp _ _ l).symm⟩)
  | lst e l => cases h; exact viaL _ _ _ (.lst e l) rfl rfl
  | cell hi =>
    rename_i a i
    cases hl : lstOf μ (.cell i) with
    | none => simp only [truth, hl] at h; cases h
    | some xs => simp only [truth, hl, Option.some.injEq] at h; exact viaL _ _ xs (.cell hi) hl h.symm
  | _ => cases h
/-- any expression that isn't told apart in a test -/
def genT : Expr → Bool
  | .BoolOp .. => false
  | .UnaryOp .. => false
  | .IfExp .. => false
  | .Compare .. => false
  | e => plE e
theorem st_gen {a : CE} {e : Expr} (x : XOk q sc N W X) (h : PE X e (tE q W a)) (hg : genT e = true) : PT X e (tT q W a) := by
  have he : ∀ whole, isTrue e X.env whole = (do let v ← whole; standAt e.pos; holding [v] (truthy v)) := fun whole => by
    cases e <;> first | rfl | exact Bool.noConfusion hg
  refine PT.dyn fun σ H Q ⟨env, μ, ι, G, R, S, c⟩ => ⟨_, pt_truth h he, env, μ, ι, G, R, S, ?_⟩
  refine GCt.bind c fun d μ1 v ι1 G1 H1 _ g r rv c1 => ?_
  obtain ⟨b, hb, c2⟩ := c1.ofO
  exact ⟨b, by rw [x.eK]; exact tru_of r rv hb, c2 b ι1 G1 H1 (Grow.refl _ _) r rfl⟩
end Co

set_option linter.all false
set_option maxRecDepth 100000
set_option Elab.async false
/-! Co14: and, or, not, chains, slices, displays. -/
namespace Co
open PySem L2
variable {q : Cq} {sc : Scope} {N : List Str} {W : WX} {X : Cx}
theorem se_and {a b : CE} {e f : Expr} {r : List Expr} {pos : Pos} (x : XOk q sc N W X) (ha : PE X e (tE q W a)) (hb : PE X (.BoolOp .And (f :: r) pos) (tE q W b)) : PE X (.BoolOp .And (e :: f :: r) pos) (tE q W (.and a b)) := by
  refine PE.dyn fun σ H Q ⟨env, μ, ι, G, R, S, c⟩ => ⟨_, pe_andT ha hb, env, μ, ι, G, R, S, ?_⟩
  have c' : Ct q.T W σ ι G ((evE q.P q.call a env μ).bind fun d μ => kAnd2 q.P q.call d (truth μ d) b env μ) Q := c
  refine GCt.bind c' fun d μ1 v ι1 G1 H1 _ g r rv c1 => ?_
  cases ht : truth μ1 d with
  | none => rw [ht] at c1; exact c1.elim
  | some k =>
    rw [ht] at c1
    refine ⟨k, by rw [x.eK]; exact tru_of r rv ht, ?_⟩
    cases k with
    | true => exact iteT ⟨env, μ1, ι1, G1, r, S.mono g, c1⟩
    | false => exact iteF (ct_val c1 r rv)
theorem se_or {a b : CE} {e f : Expr} {r : List Expr} {pos : Pos} (x : XOk q sc N W X) (ha : PE X e (tE q W a)) (hb : PE X (.BoolOp .Or (f :: r) pos) (tE q W b)) : PE X (.BoolOp .Or (e :: f :: r) pos) (tE q W (.or a b)) := by
  refine PE.dyn fun σ H Q ⟨env, μ, ι, G, R, S, c⟩ => ⟨_, pe_orT ha hb, env, μ, ι, G, R, S, ?_⟩
  have c' : Ct q.T W σ ι G ((evE q.P q.call a env μ).bind fun d μ => kOr2 q.P q.call d (truth μ d) b env μ) Q := c
  refine GCt.bind c' fun d μ1 v ι1 G1 H1 _ g r rv c1 => ?_
  cases ht : truth μ1 d with
  | none => rw [ht] at c1; exact c1.elim
  | some k =>
    rw [ht] at c1
    refine ⟨k, by rw [x.eK]; exact tru_of r rv ht, ?_⟩
    cases k with
    | true => exact iteT (ct_val c1 r rv)
    | false => exact iteF ⟨env, μ1, ι1, G1, r, S.mono g, c1⟩
theorem bOf_bind (r : RD) (F : D → Store → RD) : bOf (r.bind F) = r.bind fun d μ => bOf (F d μ) := by cases r <;> rfl
theorem st_and {a b : CE} {e f : Expr} {r : List Expr} {pos : Pos} (ha : PT X e (tT q W a)) (hb : PT X (.BoolOp .And (f :: r) pos) (tT q W b)) : PT X (.BoolOp .And (e :: f :: r) pos) (tT q W (.and a b)) := by
  have hb' : PW X (.BoolOp .And (f :: r) pos) (tT q W b) := ⟨fun _ => hb.run⟩
  refine PT.dyn fun σ H Q ⟨env, μ, ι, G, R, S, c⟩ => ⟨_, (pw_and ha hb').pt, env, μ, ι, G, R, S, ?_⟩
  have e0 : evE q.P q.call (.and a b) env μ = (evE q.P q.call a env μ).bind fun d μ => kAnd2 q.P q.call d (truth μ d) b env μ := rfl
  rw [e0, bOf_bind] at c
  have c' : GCt q.T RepB W σ ι G ((bOf (evE q.P q.call a env μ)).bind fun k μ => if k then bOf (evE q.P q.call b env μ) else .ok false μ) Q := by
    cases h1 : evE q.P q.call a env μ with
    | bad => rw [h1] at c; exact c
    | ex y μ1 => rw [h1] at c; exact c
    | ok d μ1 =>
      rw [h1] at c
      simp only [Res.bind_ok, bOf] at c ⊢
      cases ht : truth μ1 d with
      | none => rw [ht] at c; exact c
      | some k =>
        rw [ht] at c
        cases k with
        | true => exact c
        | false =>
          simp only [kAnd2_f, Res.bind_ok] at c
          rw [ht] at c
          exact c
  refine GCt.bind c' fun k μ1 v ι1 G1 H1 _ g r rv c1 => ?_
  have rv : v = k := rv
  subst rv
  cases v with
  | true => exact iteT ⟨env, μ1, ι1, G1, r, S.mono g, c1⟩
  | false => exact iteF (c1 false ι1 G1 H1 (Grow.refl _ _) r rfl)
theorem st_or {a b : CE} {e f : Expr} {r : List Expr} {pos : Pos} (ha : PT X e (tT q W a)) (hb : PT X (.BoolOp .Or (f :: r) pos) (tT q W b)) : PT X (.BoolOp .Or (e :: f :: r) pos) (tT q W (.or a b)) := by
  have hb' : PW X (.BoolOp .Or (f :: r) pos) (tT q W b) := ⟨fun _ => hb.run⟩
  refine PT.dyn fun σ H Q ⟨env, μ, ι, G, R, S, c⟩ => ⟨_, (pw_or ha hb').pt, env, μ, ι, G, R, S, ?_⟩
  have e0 : evE q.P q.call (.or a b) env μ = (evE q.P q.call a env μ).bind fun d μ => kOr2 q.P q.call d (truth μ d) b env μ := rfl
  rw [e0, bOf_bind] at c
  have c' : GCt q.T RepB W σ ι G ((bOf (evE q.P q.call a env μ)).bind fun k μ => if k then .ok true μ else bOf (evE q.P q.call b env μ)) Q := by
    cases h1 : evE q.P q.call a env μ with
    | bad => rw [h1] at c; exact c
    | ex y μ1 => rw [h1] at c; exact c
    | ok d μ1 =>
      rw [h1] at c
      simp only [Res.bind_ok, bOf] at c ⊢
      cases ht : truth μ1 d with
      | none => rw [ht] at c; exact c
      | some k =>
        rw [ht] at c
        cases k with
        | false => exact c
        | true =>
          simp only [kOr2_t, Res.bind_ok] at c
          rw [ht] at c
          exact c
  refine GCt.bind c' fun k μ1 v ι1 G1 H1 _ g r rv c1 => ?_
  have rv : v = k := rv
  subst rv
  cases v with
  | false => exact iteF ⟨env, μ1, ι1, G1, r, S.mono g, c1⟩
  | true => exact iteT (c1 true ι1 G1 H1 (Grow.refl _ _) r rfl)
theorem st_one {op : BoolOp} {a : CE} {e : Expr} {pos : Pos} (ha : PT X e (tT q W a)) : PT X (.BoolOp op [e] pos) (tT q W a) := by
  cases op with
  | And => exact (pw_and1 ha).pt
  | Or => exact (pw_or1 ha).pt
theorem se_not {a : CE} {e : Expr} {pos : Pos} (x : XOk q sc N W X) (ha : PE X e (tE q W a)) : PE X (.UnaryOp .Not e pos) (tE q W (.not a)) := by
  refine PE.dyn fun σ H Q ⟨env, μ, ι, G, R, S, c⟩ => ⟨_, pe_notT ha, env, μ, ι, G, R, S, ?_⟩
  have c' : Ct q.T W σ ι G ((evE q.P q.call a env μ).bind fun d μ => ofO ((truth μ d).map fun b => .bl (!b)) μ) Q := c
  refine GCt.bind c' fun d μ1 v ι1 G1 H1 _ g r rv c1 => ?_
  obtain ⟨b', hb, c2⟩ := c1.ofO
  obtain ⟨b, hb2, rfl⟩ := Option.map_eq_some_iff.mp hb
  exact ⟨b, by rw [x.eK]; exact tru_of r rv hb2, ct_val c2 r (.bl _)⟩
theorem st_not {a : CE} {e : Expr} {pos : Pos} (ha : PT X e (tT q W a)) : PT X (.UnaryOp .Not e pos) (tT q W (.not a)) := by
  refine PT.dyn fun σ H Q ⟨env, μ, ι, G, R, S, c⟩ => ⟨_, pt_not ha, env, μ, ι, G, R, S, ?_⟩
  have c' : GCt q.T RepB W σ ι G ((bOf (evE q.P q.call a env μ)).bind fun k μ => .ok (!k) μ) Q := by
    have e0 : evE q.P q.call (.not a) env μ = (evE q.P q.call a env μ).bind fun d μ => ofO ((truth μ d).map fun b => .bl (!b)) μ := rfl
    rw [e0, bOf_bind] at c
    cases h1 : evE q.P q.call a env μ with
    | bad => rw [h1] at c; exact c
    | ex y μ1 => rw [h1] at c; exact c
    | ok d μ1 =>
      rw [h1] at c
      simp only [Res.bind_ok, bOf] at c ⊢
      cases ht : truth μ1 d with
      | none => rw [ht] at c; exact c
      | some k => rw [ht] at c; exact c
  refine GCt.bind c' fun k μ1 v ι1 G1 H1 _ g r rv c1 => ?_
  have rv : v = k := rv
  subst rv
  exact c1 (!v) ι1 G1 H1 (Grow.refl _ _) r rfl
theorem se_ite {a b d : CE} {e f g : Expr} {pos : Pos} (x : XOk q sc N W X) (ha : PT X e (tT q W a)) (hb : PE X f (tE q W b)) (hd : PE X g (tE q W d)) : PE X (.IfExp e f g pos) (tE q W (.ite a b d)) := by
  refine PE.dyn fun σ H Q ⟨env, μ, ι, G, R, S, c⟩ => ⟨_, pe_ifExp ha hb hd, env, μ, ι, G, R, S, ?_⟩
  have c' : Ct q.T W σ ι G ((bOf (evE q.P q.call a env μ)).bind fun k μ => if k then evE q.P q.call b env μ else evE q.P q.call d env μ) Q := by
    have e0 : evE q.P q.call (.ite a b d) env μ = (evE q.P q.call a env μ).bind fun z μ => kIteE2 q.P q.call (truth μ z) b d env μ := rfl
    rw [e0] at c
    cases h1 : evE q.P q.call a env μ with
    | bad => rw [h1] at c; exact c
    | ex y μ1 => rw [h1] at c; exact c
    | ok z μ1 =>
      rw [h1] at c
      simp only [Res.bind_ok, bOf] at c ⊢
      cases ht : truth μ1 z with
      | none => rw [ht] at c; exact c
      | some k => rw [ht] at c; cases k <;> exact c
  refine GCt.bind c' fun k μ1 v ι1 G1 H1 _ g r rv c1 => ?_
  have rv : v = k := rv
  subst rv
  cases v with
  | true => exact iteT ⟨env, μ1, ι1, G1, r, S.mono g, c1⟩
  | false => exact iteF ⟨env, μ1, ι1, G1, r, S.mono g, c1⟩
/-! ### chains of two comparisons of whole numbers -/
def oOrd : CmpOp → Option (CmpO × (Int → Int → Bool))
  | .Lt => some (.lt, fun i j => decide (i < j))
  | .LtE => some (.le, fun i j => decide (i ≤ j))
  | .Gt => some (.gt, fun i j => decide (j < i))
  | .GtE => some (.ge, fun i j => decide (j ≤ i))
  | _ => none
theorem ord_op {op : CmpOp} {o : CmpO} {f : Int → Int → Bool} (h : oOrd op = some (o, f)) : OpR X (compareOp op) (rI0 fun i j => .bl (f i j)) ∧ ∀ μ d e b, cmpS μ o d e = some b → ∃ i j, d = .int i ∧ e = .int j ∧ b = f i j := by
  cases op <;> simp only [oOrd, reduceCtorEq, Option.some.injEq, Prod.mk.injEq] at h
  · obtain ⟨rfl, rfl⟩ := h
    exact ⟨op_lt, fun μ d e b h => by cases d <;> cases e <;> simp only [cmpS, reduceCtorEq, Option.some.injEq] at h; exact ⟨_, _, rfl, rfl, h.symm⟩⟩
  · obtain ⟨rfl, rfl⟩ := h
    exact ⟨op_le, fun μ d e b h => by cases d <;> cases e <;> simp only [cmpS, reduceCtorEq, Option.some.injEq] at h; exact ⟨_, _, rfl, rfl, h.symm⟩⟩
  · obtain ⟨rfl, rfl⟩ := h
    exact ⟨op_gt, fun μ d e b h => by cases d <;> cases e <;> simp only [cmpS, reduceCtorEq, Option.some.injEq] at h; exact ⟨_, _, rfl, rfl, h.symm⟩⟩
  · obtain ⟨rfl, rfl⟩ := h
    exact ⟨op_ge, fun μ d e b h => by cases d <;> cases e <;> simp only [cmpS, reduceCtorEq, Option.some.injEq] at h; exact ⟨_, _, rfl, rfl, h.symm⟩⟩
theorem chn_run {op op2 : CmpOp} {o o2 : CmpO} {fa fb : Int → Int → Bool} {a b d : CE} (h1 : oOrd op = some (o, fa)) (h2 : oOrd op2 = some (o2, fb)) (x : XOk q sc N W X) {σ : L2.St} {H : Hp} {env : Env} {μ : Store} {ι : List Addr} {G : Hp} (R : RelH q.T ι G μ H) (S : RelS q.T ι G env σ)
    {Q : VK} (c : Ct q.T W σ ι G (evE q.P q.call (.chn o o2 a b d) env μ) Q) : tChain (rI0 fun i j => .bl (fa i j)) (rI0 fun i j => .bl (fb i j)) (tE q W a) (tE q W b) (tE q W d) σ H Q := by
  have c' : Ct q.T W σ ι G ((evE q.P q.call a env μ).bind fun z μ => (evE q.P q.call b env μ).bind fun y μ => kChn3 q.P q.call (cmpS μ o z y) o2 y d env μ) Q := c
  refine ⟨env, μ, ι, G, R, S, GCt.bind c' fun z μ1 v ι1 G1 H1 _ g1 r1 rz c1 => ⟨env, μ1, ι1, G1, r1, S.mono g1, GCt.bind c1 fun y μ2 w ι2 G2 H2 _ g2 r2 ry c2 => ?_⟩⟩
  cases hc : cmpS μ2 o z y with
  | none => rw [hc] at c2; exact c2.elim
  | some k =>
    obtain ⟨i, j, rfl, rfl, rfl⟩ := (ord_op (X := X) h1).2 μ2 z y k hc
    rw [hc] at c2
    cases rz
    cases ry
    refine ⟨i, j, rfl, rfl, fa i j, rfl, ?_⟩
    cases hk : fa i j with
    | false =>
      rw [hk] at c2
      exact iteF (ct_val c2 r2 (.bl _))
    | true =>
      rw [hk] at c2
      have c3 : Ct q.T W σ ι2 G2 ((evE q.P q.call d env μ2).bind fun f μ => ofO ((cmpS μ o2 (.int j) f).map D.bl) μ) Q := c2
      refine iteT ⟨env, μ2, ι2, G2, r2, (S.mono g1).mono g2, GCt.bind c3 fun f μ3 u ι3 G3 H3 _ g3 r3 rf c4 => ?_⟩
      obtain ⟨b', hb, c5⟩ := c4.ofO
      obtain ⟨b2, hb2, rfl⟩ := Option.map_eq_some_iff.mp hb
      obtain ⟨i2, j2, e1, rfl, rfl⟩ := (ord_op (X := X) h2).2 μ3 _ f b2 hb2
      cases e1
      cases rf
      exact ⟨j, j2, rfl, rfl, ct_val c5 r3 (.bl _)⟩
theorem marks2 {op op2 : CmpOp} {f g : Expr} (hp : plE g = true) : lastMarks [op, op2] [f, g] = false := pl_mark hp op2
theorem se_chn {op op2 : CmpOp} {o o2 : CmpO} {fa fb : Int → Int → Bool} {a b d : CE} {e f g : Expr} {pos : Pos} (h1 : oOrd op = some (o, fa)) (h2 : oOrd op2 = some (o2, fb)) (x : XOk q sc N W X) (ha : PE X e (tE q W a)) (hb : PE X f (tE q W b)) (hd : PE X g (tE q W d)) (hp : plE g = true) :
    PE X (.Compare e [op, op2] [f, g] pos) (tE q W (.chn o o2 a b d)) :=
  PE.dyn fun σ H Q ⟨env, μ, ι, G, R, S, c⟩ => ⟨_, pe_chain (ord_op h1).1 (ord_op h2).1 ha hb hd (marks2 hp), chn_run h1 h2 x R S c⟩
theorem chn_bl {op op2 : CmpOp} {o o2 : CmpO} {fa fb : Int → Int → Bool} {a b d : CE} (h1 : oOrd op = some (o, fa)) (h2 : oOrd op2 = some (o2, fb)) {T : Nam} {σ : L2.St} {env : Env} {μ : Store} {ι : List Addr} {G : Hp} {Q : Bool → Hp → Prop}
    (c : GCt T RepB W σ ι G (bOf (evE q.P q.call (.chn o o2 a b d) env μ)) Q) : Ct T W σ ι G (evE q.P q.call (.chn o o2 a b d) env μ) (fun v H => ∃ k, v = .bl k ∧ Q k H) := by
  have e0 : evE q.P q.call (.chn o o2 a b d) env μ = (evE q.P q.call a env μ).bind fun z μ => (evE q.P q.call b env μ).bind fun y μ => kChn3 q.P q.call (cmpS μ o z y) o2 y d env μ := rfl
  rw [e0] at c ⊢
  have isb : ∀ r : RD, (∀ d μ, r = .ok d μ → ∃ k, d = .bl k) → GCt T RepB W σ ι G (bOf r) Q → Ct T W σ ι G r (fun v H => ∃ k, v = .bl k ∧ Q k H) := fun r hr c => by
    cases r with
    | bad => exact c
    | ex y μ1 => exact c
    | ok d μ1 =>
      obtain ⟨k, rfl⟩ := hr d μ1 rfl
      intro v ι' G' H' g R' rv
      cases rv
      exact ⟨_, rfl, c _ ι' G' H' g R' rfl⟩
  refine isb _ (fun z μ1 hz => ?_) c
  cases ea : evE q.P q.call a env μ with
  | bad => rw [ea] at hz; cases hz
  | ex y μ1 => rw [ea] at hz; cases hz
  | ok z1 μ2 =>
    rw [ea, Res.bind_ok] at hz
    cases eb : evE q.P q.call b env μ2 with
    | bad => rw [eb] at hz; cases hz
    | ex y μ1 => rw [eb] at hz; cases hz
    | ok z2 μ3 =>
      rw [eb, Res.bind_ok] at hz
      cases hc : cmpS μ3 o z1 z2 with
      | none => rw [hc] at hz; cases hz
      | some k =>
        rw [hc] at hz
        cases k with
        | false => cases hz; exact ⟨_, rfl⟩
        | true =>
          have hz' : (evE q.P q.call d env μ3).bind (fun f μ => ofO ((cmpS μ o2 z2 f).map D.bl) μ) = .ok z μ1 := hz
          cases ed : evE q.P q.call d env μ3 with
          | bad => rw [ed] at hz'; cases hz'
          | ex y μ1 => rw [ed] at hz'; cases hz'
          | ok z3 μ4 =>
            rw [ed, Res.bind_ok] at hz'
            cases hc2 : cmpS μ4 o2 z2 z3 with
            | none => rw [hc2] at hz'; cases hz'
            | some k2 => rw [hc2] at hz'; cases hz'; exact ⟨_, rfl⟩
theorem st_chn {op op2 : CmpOp} {o o2 : CmpO} {fa fb : Int → Int → Bool} {a b d : CE} {e f g : Expr} {pos : Pos} (h1 : oOrd op = some (o, fa)) (h2 : oOrd op2 = some (o2, fb)) (x : XOk q sc N W X) (ha : PE X e (tE q W a)) (hb : PE X f (tE q W b)) (hd : PE X g (tE q W d)) (hp : plE g = true) :
    PT X (.Compare e [op, op2] [f, g] pos) (tT q W (.chn o o2 a b d)) :=
  PT.dyn fun σ H Q ⟨env, μ, ι, G, R, S, c⟩ => ⟨_, pt_chain (ord_op h1).1 (ord_op h2).1 ha hb hd (marks2 hp), chn_run h1 h2 x R S (chn_bl h1 h2 c)⟩
/-! ### displays, slices -/
theorem evA_len {as : CE} {es : List Expr} (A : Args X q W as es) : ∀ {env : Env} {μ μ' : Store} {ds : List D}, evA q.P q.call as env μ = .ok ds μ' → ds.length = es.length := by
  induction A with
  | nil => intro env μ μ' ds h; cases h; rfl
  | cons h hp A ih =>
    rename_i a r e es
    intro env μ μ' ds h
    have h' : ((evE q.P q.call a env μ).bind fun d μ => (evA q.P q.call r env μ).bind fun ds μ => .ok (d :: ds) μ) = .ok ds μ' := h
    cases h1 : evE q.P q.call a env μ with
    | bad => rw [h1] at h'; cases h'
    | ex y μ1 => rw [h1] at h'; cases h'
    | ok d μ1 =>
      rw [h1, Res.bind_ok] at h'
      cases h2 : evA q.P q.call r env μ1 with
      | bad => rw [h2] at h'; cases h'
      | ex y μ1 => rw [h2] at h'; cases h'
      | ok d2 μ2 =>
        rw [h2, Res.bind_ok] at h'
        cases h'
        rw [List.length_cons, ih h2, List.length_cons]
theorem big_ok {n : Nat} (h : n ≤ 1000) : n ≤ sizeLine := Nat.le_trans h (by decide)
theorem se_tup {as : CE} {es : List Expr} {k : Nat} {pos : Pos} (A : Args X q W as es) (hl : es.length ≤ 1000) : PE X (.Tuple es k pos) (tE q W (.tup as)) := by
  refine PE.dyn fun σ H Q ⟨env, μ, ι, G, R, S, c⟩ => ⟨_, pe_tup A.pa, env, μ, ι, G, R, S, ?_⟩
  have c' : Ct q.T W σ ι G ((evA q.P q.call as env μ).bind fun ds μ => .ok (.tup ds) μ) Q := c
  exact GCt.bind c' fun ds μ1 vs ι1 G1 H1 he g r rl c1 => ⟨by rw [rl.length, evA_len A he]; exact big_ok hl, fun p hp => ct_new c1 r _ hp fun G' g e => .tup e (rl.mono g)⟩
theorem se_lst {as : CE} {es : List Expr} {fz : Bool} {pos : Pos} (A : Args X q W as es) (hl : es.length ≤ 1000) : PE X (.List es pos) (tE q W (.lst fz as)) := by
  refine PE.dyn fun σ H Q ⟨env, μ, ι, G, R, S, c⟩ => ⟨_, pe_lst A.pa, env, μ, ι, G, R, S, ?_⟩
  have c' : Ct q.T W σ ι G ((evA q.P q.call as env μ).bind fun ds μ => put μ fz (.lst ds)) Q := c
  exact GCt.bind c' fun ds μ1 vs ι1 G1 H1 he g r rl c1 => ⟨by rw [rl.length, evA_len A he]; exact big_ok hl, fun p hp => ct_put c1 r rl hp⟩
/-- what was just made stays as it is -/
def tPin (t : TE) : TE := fun σ H Q => t σ H fun v H' => ∃ d u, H' d = some u ∧ Mut (some u) ∧ ∀ od, Q v (upd H' d (.frz od u))
theorem pe_pin {e : Expr} {t : TE} (h : PE X e t) : PE X e (tPin t) := ⟨fun pins s σ H Q I q => by
  refine thn (h.run pins s σ H _ I q) fun v s1 ⟨x, H1, I1, r1, d, u, hd, mu, k⟩ => ?_
  obtain ⟨od, I2⟩ := I1.lock hd mu
  exact ⟨x, _, I2, r1, k od⟩⟩
theorem se_dnew {t fz : Bool} {pos : Pos} : PE X (.Dict [] [] pos) (tE q W (.dnew t fz)) := by
  refine PE.dyn fun σ H Q ⟨env, μ, ι, G, R, S, c⟩ => ?_
  have c' : Ct q.T W σ ι G (put μ fz (.dic t [])) Q := c
  cases t with
  | false =>
    cases fz with
    | true =>
      refine ⟨_, pe_pin pe_dnewK, fun p hp => ⟨p, _, upd_same, trivial, fun od => ?_⟩⟩
      rw [upd_upd]
      exact ct_new c' R _ hp fun G' g e => .dicK e .nil
    | false =>
      refine ⟨_, pe_dnewK, fun p hp => ?_⟩
      exact c' (.ref p) (ι ++ [p]) G _ (Grow.cell ι G p) (R.cell (c := .dic false []) hp (.dicK (R.fz.free hp) upd_same .nil)) (.cell (by rw [← R.len]; simp))
  | true =>
    cases fz with
    | true =>
      refine ⟨_, pe_pin pe_dnewT, fun p hp => ⟨p, _, upd_same, trivial, fun od => ?_⟩⟩
      rw [upd_upd]
      exact ct_new c' R _ hp fun G' g e => .dicT e .nil
    | false =>
      refine ⟨_, pe_dnewT, fun p hp => ?_⟩
      exact c' (.ref p) (ι ++ [p]) G _ (Grow.cell ι G p) (R.cell (c := .dic true []) hp (.dicT (R.fz.free hp) upd_same .nil)) (.cell (by rw [← R.len]; simp))
/-- a part of a slice -/
def tP (q : Cq) (W : WX) (c : CE) : TO := fun σ H Q => ∃ (env : Env) (μ : Store) (ι : List Addr) (G : Hp), RelH q.T ι G μ H ∧ RelS q.T ι G env σ ∧ GCt q.T (fun _ _ b c => b = c) W σ ι G (evP q.P q.call c env μ) Q
theorem PO.dyn {e : Option Expr} {t' : TO} (h : ∀ σ H Q, t' σ H Q → ∃ t, PO X e t ∧ t σ H Q) : PO X e t' := ⟨fun pins s σ H Q I q => by
  obtain ⟨t, h1, h2⟩ := h σ H Q q
  exact h1.run pins s σ H Q I h2⟩
theorem po_npt : PO X none (tP q W .npt) := PO.dyn fun σ H Q ⟨env, μ, ι, G, R, S, c⟩ => ⟨_, po_none, c none ι G H (Grow.refl _ _) R rfl⟩
theorem po_prt {a : CE} {e : Expr} (h : PE X e (tE q W a)) : PO X (some e) (tP q W (.prt a)) := PO.dyn fun σ H Q ⟨env, μ, ι, G, R, S, c⟩ => ⟨_, po_some h, env, μ, ι, G, R, S, by
  have c' : GCt q.T (fun _ _ b c => b = c) W σ ι G ((evE q.P q.call a env μ).bind fun d μ => ofO (partOf d) μ) Q := c
  refine GCt.bind c' fun d μ1 v ι1 G1 H1 _ g r rv c1 => ?_
  obtain ⟨o, ho, c2⟩ := c1.ofO
  cases rv with
  | int i => cases ho; exact ⟨i, rfl, c2 _ ι1 G1 H1 (Grow.refl _ _) r rfl⟩
  | _ => cases ho⟩
theorem cut_rep {T : Nam} {ι : List Addr} {G : Hp} {vs : List V} {ds : List D} (r : RepL T ι G vs ds) (lo hi : Option Int) : RepL T ι G (cutV vs lo hi) (cutD ds lo hi) := by
  unfold cutV cutD
  rw [r.length]
  exact (r.drop _).take _
theorem cut_whole {xs : List D} {lo hi : Option Int} (h : HT.sIx xs.length 0 lo = 0 ∧ HT.sIx xs.length xs.length hi = xs.length) : cutD xs lo hi = xs := by
  unfold cutD
  rw [h.1, h.2, Nat.sub_zero, List.drop_zero, List.take_length]
theorem strK_cut {z : Str} (h : strK z) (lo hi : Option Int) : strK (cutS z lo hi) := fun c hc => by
  have hc' : c ∈ (z.cps.toList.drop (HT.sIx z.length 0 lo)).take (HT.sIx z.length z.length hi - HT.sIx z.length 0 lo) := by simpa [cutS] using hc
  exact h c (List.mem_of_mem_drop (List.mem_of_mem_take hc'))
theorem se_sl {a l h : CE} {e : Expr} {el eh : Option Expr} {p2 pos : Pos} (x : XOk q sc N W X) (ha : PE X e (tE q W a)) (hl : PO X el (tP q W l)) (hh : PO X eh (tP q W h)) : PE X (.Subscript e (.Slice el eh none p2) pos) (tE q W (.sl a l h)) := by
  refine PE.dyn fun σ H Q ⟨env, μ, ι, G, R, S, c⟩ => ?_
  have c' : Ct q.T W σ ι G ((evE q.P q.call a env μ).bind fun d μ => (evP q.P q.call l env μ).bind fun lo μ => (evP q.P q.call h env μ).bind fun hi μ => slS μ d lo hi) Q := c
  have main : ∀ r : V → Option Int → Option Int → Hp → VK → Prop, (∀ d μ1 lo μ2 hi μ3, evE q.P q.call a env μ = .ok d μ1 → evP q.P q.call l env μ1 = .ok lo μ2 → evP q.P q.call h env μ2 = .ok hi μ3 → ∀ v ι G H, RelH q.T ι G μ3 H → RepD q.T ι G v d → Ct q.T W σ ι G (slS μ3 d lo hi) Q → r v lo hi H Q) → tSl r (tE q W a) (tP q W l) (tP q W h) σ H Q := fun r hr =>
    ⟨env, μ, ι, G, R, S, GCt.bind c' fun d μ1 v ι1 G1 H1 e1 g1 r1 rd c1 => ⟨env, μ1, ι1, G1, r1, S.mono g1, GCt.bind c1 fun lo μ2 lo' ι2 G2 H2 e2 g2 r2 rlo c2 => by
      have rlo : lo' = lo := rlo
      subst rlo
      exact ⟨env, μ2, ι2, G2, r2, (S.mono g1).mono g2, GCt.bind c2 fun hi μ3 hi' ι3 G3 H3 e3 g3 r3 rhi c3 => by
        have rhi : hi' = hi := rhi
        subst rhi
        exact hr d μ1 lo' μ2 hi' μ3 e1 e2 e3 v ι3 G3 H3 r3 ((rd.mono g2).mono g3) c3⟩⟩⟩
  have no : ∃ t, PE X (.Subscript e (.Slice el eh none p2) pos) t ∧ ((∀ d μ1 lo μ2 hi μ3, evE q.P q.call a env μ = .ok d μ1 → evP q.P q.call l env μ1 = .ok lo μ2 → evP q.P q.call h env μ2 = .ok hi μ3 → False) → t σ H Q) :=
    ⟨_, pe_slice sl_list ha hl hh, fun hf => main _ fun d μ1 lo μ2 hi μ3 e1 e2 e3 => (hf d μ1 lo μ2 hi μ3 e1 e2 e3).elim⟩
  obtain ⟨t0, ht0, hn0⟩ := no
  cases e1 : evE q.P q.call a env μ with
  | bad => rw [e1] at c'; exact c'.elim
  | ex y μ1 => exact ⟨t0, ht0, hn0 fun d μ1' lo μ2 hi μ3 z => by rw [e1] at z; cases z⟩
  | ok d μ1 => cases e2 : evP q.P q.call l env μ1 with
    | bad => rw [e1, Res.bind_ok, e2] at c'; exact c'.elim
    | ex y μ2 => exact ⟨t0, ht0, hn0 fun d' μ1' lo μ2' hi μ3 z z2 => by rw [e1] at z; cases z; rw [e2] at z2; cases z2⟩
    | ok lo μ2 => cases e3 : evP q.P q.call h env μ2 with
      | bad => rw [e1, Res.bind_ok, e2, Res.bind_ok, e3] at c'; exact c'.elim
      | ex y μ3 => exact ⟨t0, ht0, hn0 fun d' μ1' lo' μ2' hi μ3' z z2 z3 => by rw [e1] at z; cases z; rw [e2] at z2; cases z2; rw [e3] at z3; cases z3⟩
      | ok hi μ3 =>
        rw [e1, Res.bind_ok, e2, Res.bind_ok, e3, Res.bind_ok] at c'
        have go : ∀ r, SlR X r → (∀ v ι G H, RelH q.T ι G μ3 H → RepD q.T ι G v d → Ct q.T W σ ι G (slS μ3 d lo hi) Q → r v lo hi H Q) → ∃ t, PE X (.Subscript e (.Slice el eh none p2) pos) t ∧ t σ H Q := fun r hr hq =>
          ⟨_, pe_slice hr ha hl hh, main r fun d' μ1' lo' μ2' hi' μ3' z z2 z3 => by rw [e1] at z; cases z; rw [e2] at z2; cases z2; rw [e3] at z3; cases z3; exact hq⟩
        have viaL : ∀ xs, lstOf μ3 d = some xs → slS μ3 d lo hi = .ok (.lst (cutD xs lo hi)) μ3 → ∃ t, PE X (.Subscript e (.Slice el eh none p2) pos) t ∧ t σ H Q := fun xs hx hs =>
          go _ sl_list fun v ι G H R rv c3 => by
            rw [hs] at c3
            obtain ⟨b, vs, rfl, h1, h2⟩ := R.lstOf rv hx
            exact ⟨b, vs, rfl, .inl h1, fun p hp => ct_new c3 R _ hp fun G' g z => .lst (.inl z) ((cut_rep h2 lo hi).mono g)⟩
        cases d with
        | str z =>
          refine go _ sl_str fun v ι G H R rv c3 => ?_
          cases rv
          rename_i k
          have c4 : Ct q.T W σ ι G (if sz z.length then .ok (.str (cutS z lo hi)) μ3 else .bad) Q := c3
          split at c4
          · rename_i hz
            exact ⟨z, rfl, flip_len hz, ct_val c4 R (.str (strK_cut k lo hi))⟩
          · exact c4.elim
        | tup xs =>
          refine go _ sl_tupA fun v ι G H R rv c3 => ?_
          cases rv with
          | tup g1 l1 =>
            have c4 : Ct q.T W σ ι G (.ok (.tup (cutD xs lo hi)) μ3) Q := c3
            refine ⟨_, _, rfl, .inl (.inl (R.fz.tup g1)), fun hz => ?_, fun _ p hp => ct_new c4 R _ hp fun G' g z => .tup z ((cut_rep l1 lo hi).mono g)⟩
            rw [l1.length] at hz
            rw [cut_whole hz] at c4
            exact ct_val c4 R (.tup g1 l1)
        | wtup xs =>
          refine go _ sl_tupA fun v ι G H R rv c3 => ?_
          cases rv with
          | wtup g1 l1 =>
            have c4 : Ct q.T W σ ι G (if HT.sIx xs.length 0 lo = 0 ∧ HT.sIx xs.length xs.length hi = xs.length then .ok (.wtup xs) μ3 else .ok (.tup (cutD xs lo hi)) μ3) Q := c3
            refine ⟨_, _, rfl, by rw [x.eK]; exact R.fz.sqt g1, fun hz => ?_, fun hz p hp => ?_⟩
            · rw [l1.length] at hz
              rw [if_pos hz] at c4
              exact ct_val c4 R (.wtup g1 l1)
            · rw [l1.length] at hz
              rw [if_neg hz] at c4
              exact ct_new c4 R _ hp fun G' g z => .tup z ((cut_rep l1 lo hi).mono g)
        | lst xs => exact viaL xs rfl rfl
        | cell i =>
          cases hx : lstOf μ3 (.cell i) with
          | none => simp only [slS, hx] at c'; exact c'.elim
          | some xs => exact viaL xs hx (by simp only [slS, hx])
        | _ => exact c'.elim
end Co

set_option linter.all false
set_option maxRecDepth 100000
set_option Elab.async false
/-! Co15: what is walked; comprehensions. -/
namespace Co
open PySem L2
variable {q : Cq} {sc : Scope} {N : List Str} {W : WX} {X : Cx}
/-! ### targets -/
def okG (N : List Str) (sc : Scope) (fnLocal : Bool) : TGT → Expr → Bool
  | .nm i, .Name x _ => decide (N[i]? = some x) && (match sc.names.lookup x with
    | some .local => true
    | some .cell => fnLocal
    | _ => false)
  | .tp ts, .Tuple es _ _ => okGs ts es
  | _, _ => false
where
  okGs : TGT → List Expr → Bool
    | .nil, [] => true
    | .cons (.nm i) r, e :: es => (match e with
      | .Name x _ => decide (N[i]? = some x) && (match sc.names.lookup x with
        | some .local => true
        | some .cell => fnLocal
        | _ => false)
      | _ => false) && okGs r es
    | .cons (.tp ts) r, e :: es => (match e with
      | .Tuple es2 _ _ => okGs ts es2
      | _ => false) && okGs r es
    | _, _ => false
/-- the slots that a target fills are among vs -/
def tgIn (vs : List Nat) : TGT → Bool
  | .nm i => vs.contains i
  | .tp ts => tgIn vs ts
  | .nil => true
  | .cons a b => tgIn vs a && tgIn vs b
theorem wipe_set {σ : L2.St} {i : Nat} {x : Option V} : ∀ {vs : List Nat}, vs.contains i = true → wipe (σ.set i x) vs = wipe σ vs
  | [], h => by simp at h
  | v :: vs, h => by
    unfold wipe
    by_cases hv : vs.contains i = true
    · rw [wipe_set hv]
    · have e : v = i := by
        simp only [List.contains_cons, Bool.or_eq_true] at h
        rcases h with h | h
        · exact (by simpa using h : i = v).symm
        · exact absurd h hv
      subst e
      exact wipe_out hv
where
  wipe_out {σ : L2.St} {i : Nat} {x : Option V} : ∀ {vs : List Nat}, ¬ vs.contains i = true → (wipe (σ.set i x) vs).set i none = (wipe σ vs).set i none
  | [], _ => by
    unfold wipe
    rw [List.set_set]
  | v :: vs, h => by
    have h1 : v ≠ i := fun e => by
      subst e
      simp at h
    have h2 : ¬ vs.contains i = true := fun e => by
      apply h
      simp only [List.contains_cons, Bool.or_eq_true]
      exact .inr e
    unfold wipe
    rw [List.set_comm _ _ h1, wipe_out h2, List.set_comm _ _ h1.symm]
theorem wipe_wipe {σ : L2.St} : ∀ {vs ws : List Nat}, (∀ i ∈ vs, i ∈ ws) → wipe (wipe σ vs) ws = wipe σ ws
  | [], ws, _ => rfl
  | v :: vs, ws, h => by
    have e : wipe σ (v :: vs) = (wipe σ vs).set v none := rfl
    rw [e, wipe_set (by simpa using h v List.mem_cons_self), wipe_wipe fun i hi => h i (List.mem_cons_of_mem _ hi)]
/-- what the targets' rules ask, told -/
def tG (T : Nam) (tg : TGT) : TG := fun v σ H Q => ∃ (ι : List Addr) (G : Hp) (μ : Store) (env env' : Env) (d : D), RelH T ι G μ H ∧ RelS T ι G env σ ∧ RepD T ι G v d ∧ asgT tg d env = some env' ∧ ∀ σ', RelS T ι G env' σ' → σ'.length = σ.length → (∀ vs, tgIn vs tg = true → wipe σ' vs = wipe σ vs) → Q σ' H
def tGs (T : Nam) (tg : TGT) : TGs := fun vs σ H Q => ∃ (ι : List Addr) (G : Hp) (μ : Store) (env env' : Env) (ds : List D), RelH T ι G μ H ∧ RelS T ι G env σ ∧ RepL T ι G vs ds ∧ asgT.asgTs tg ds env = some env' ∧ ∀ σ', RelS T ι G env' σ' → σ'.length = σ.length → (∀ vs, tgIn vs tg = true → wipe σ' vs = wipe σ vs) → Q σ' H
theorem PG.dyn {e : Expr} {t' : TG} (h : ∀ v σ H Q, t' v σ H Q → ∃ t, PG X e t ∧ t v σ H Q) : PG X e t' := ⟨fun pins s σ H v u Q I r q => by
  obtain ⟨t, h1, h2⟩ := h v σ H Q q
  exact h1.run pins s σ H v u Q I r h2⟩
theorem PGs.dyn {e : List Expr} {t' : TGs} (h : ∀ v σ H Q, t' v σ H Q → ∃ t, PGs X e t ∧ t v σ H Q) : PGs X e t' := ⟨fun pins s σ H v u Q I r q => by
  obtain ⟨t, h1, h2⟩ := h v σ H Q q
  exact h1.run pins s σ H v u Q I r h2⟩
/-- what a context is for targets -/
structure GOk (q : Cq) (sc : Scope) (N : List Str) (fnLocal : Bool) (X : Cx) : Prop where
  eK : X.K = q.T.K
  eS : X.env.scope = sc
  eN : X.N = N
  nd : N.Nodup
  calm : X.calm = true
  fnl : fnLocal = true → ∀ x, X.fn x = true
theorem pg_nm {fl : Bool} {i : Nat} {y : Str} {pos : Pos} (x : GOk q sc N fl X) (h1 : N[i]? = some y) (h2 : (match sc.names.lookup y with
    | some .local => true
    | some .cell => fl
    | _ => false) = true) : PG X (.Name y pos) (gName i) := by
  refine pg_name (by rw [x.eN]; exact x.nd) (by rw [x.eN]; exact h1) ?_ ?_
  · unfold L2.Loc
    rw [x.eS]
    split at h2
    · exact .inl (by assumption)
    · exact .inr (by assumption)
    · cases h2
  · rw [x.eS]
    split at h2
    · exact .inr (by assumption)
    · exact .inl (x.fnl h2 y)
    · cases h2
theorem findStar : ∀ {es : List Expr} {env : PySem.Env}, (∀ e ∈ es, (∃ x p, e = .Name x p) ∨ ∃ l k p, e = .Tuple l k p) → (assignEach es env).length = es.length ∧ (assignEach es env).findIdx? (·.1) = none
  | [], env, _ => ⟨rfl, rfl⟩
  | e :: es, env, h => by
    have ih := findStar (es := es) (env := env) fun x hx => h x (List.mem_cons_of_mem _ hx)
    have e0 : assignEach (e :: es) env = (false, assign e env) :: assignEach es env := by
      rcases h e List.mem_cons_self with ⟨x, p, rfl⟩ | ⟨l, k, p, rfl⟩ <;> rfl
    rw [e0, List.length_cons, List.length_cons, ih.1, List.findIdx?_cons]
    refine ⟨rfl, ?_⟩
    simp [ih.2]
theorem okGs_form {N : List Str} {sc : Scope} {fl : Bool} : ∀ {tg : TGT} {es : List Expr}, okG.okGs N sc fl tg es = true → ∀ e ∈ es, (∃ x p, e = .Name x p) ∨ ∃ l k p, e = .Tuple l k p
  | .nil, [], _, e, h => by cases h
  | .cons (.nm i) r, e :: es, h, f, hf => by
    unfold okG.okGs at h
    rw [Bool.and_eq_true] at h
    rcases List.mem_cons.mp hf with rfl | hf
    · have h1 := h.1
      split at h1
      · exact .inl ⟨_, _, rfl⟩
      · cases h1
    · exact okGs_form h.2 f hf
  | .cons (.tp ts) r, e :: es, h, f, hf => by
    unfold okG.okGs at h
    rw [Bool.and_eq_true] at h
    rcases List.mem_cons.mp hf with rfl | hf
    · have h1 := h.1
      split at h1
      · exact .inr ⟨_, _, _, rfl⟩
      · cases h1
    · exact okGs_form h.2 f hf
theorem asgTs_len : ∀ {tg : TGT} {es : List Expr} {N : List Str} {sc : Scope} {fl : Bool} {ds : List D} {env env' : Env}, okG.okGs N sc fl tg es = true → asgT.asgTs tg ds env = some env' → ds.length = es.length
  | .nil, [], _, _, _, [], _, _, _, _ => rfl
  | .nil, [], _, _, _, _ :: _, _, _, _, h => by cases h
  | .cons (.nm i) r, e :: es, N, sc, fl, [], env, env', h, h2 => by cases h2
  | .cons (.tp ts) r, e :: es, N, sc, fl, [], env, env', h, h2 => by cases h2
  | .cons (.nm i) r, e :: es, N, sc, fl, d :: ds, env, env', h, h2 => by
    unfold okG.okGs at h
    rw [Bool.and_eq_true] at h
    have h3 : asgT.asgTs r ds (env.set i (some d)) = some env' := h2
    rw [List.length_cons, List.length_cons, asgTs_len h.2 h3]
  | .cons (.tp ts) r, e :: es, N, sc, fl, d :: ds, env, env', h, h2 => by
    unfold okG.okGs at h
    rw [Bool.and_eq_true] at h
    have h3 : ∃ env2, asgT.asgTs r ds env2 = some env' := by
      cases d with
      | tup ys =>
        have h4 : (asgT.asgTs ts ys env).bind (asgT.asgTs r ds) = some env' := h2
        obtain ⟨e2, _, h5⟩ := Option.bind_eq_some_iff.mp h4
        exact ⟨e2, h5⟩
      | wtup ys =>
        have h4 : (asgT.asgTs ts ys env).bind (asgT.asgTs r ds) = some env' := h2
        obtain ⟨e2, _, h5⟩ := Option.bind_eq_some_iff.mp h4
        exact ⟨e2, h5⟩
      | _ => cases h2
    obtain ⟨e2, h3⟩ := h3
    rw [List.length_cons, List.length_cons, asgTs_len h.2 h3]
theorem tup_view {T : Nam} {ι : List Addr} {G H : Hp} {μ : Store} (R : RelH T ι G μ H) {v : V} {d : D} (r : RepD T ι G v d) {ys : List D} (h : d = .tup ys ∨ d = .wtup ys) : ∃ a vs, v = .ref a ∧ SqT T.K H a vs ∧ RepL T ι G vs ys := by
  rcases h with rfl | rfl
  · cases r with
    | tup e l => exact ⟨_, _, rfl, .inl (.inl (R.fz.tup e)), l⟩
  · cases r with
    | wtup e l => exact ⟨_, _, rfl, R.fz.sqt e, l⟩
theorem pgs_ok {fl : Bool} (x : GOk q sc N fl X) : ∀ {tg : TGT} {es : List Expr}, okG.okGs N sc fl tg es = true → PGs X es (tGs q.T tg)
  | .nil, [], _ => PGs.dyn fun v σ H Q ⟨ι, G, μ, env, env', ds, R, S, rl, ha, k⟩ => ⟨_, pgs_nil, by
    cases ds with
    | nil => cases rl; cases ha; exact ⟨rfl, k σ S rfl fun _ _ => rfl⟩
    | cons _ _ => cases ha⟩
  | .cons (.nm i) r, e :: es, h => by
    unfold okG.okGs at h
    rw [Bool.and_eq_true] at h
    have ih := pgs_ok x h.2
    have h1 := h.1
    split at h1
    · rename_i y p
      rw [Bool.and_eq_true] at h1
      refine PGs.dyn fun v σ H Q ⟨ι, G, μ, env, env', ds, R, S, rl, ha, k⟩ => ⟨_, pgs_cons (pg_nm x (of_decide_eq_true h1.1) h1.2) ih, ?_⟩
      cases rl with
      | nil => cases ha
      | @cons v1 vs1 d1 ds1 hd hl =>
        have ha' : asgT.asgTs r ds1 (env.set i (some d1)) = some env' := ha
        exact ⟨_, _, rfl, ι, G, μ, _, env', _, R, S.set hd i, hl, ha', fun σ' S' hl' hw => k σ' S' (by rw [hl', List.length_set]) fun vs hv => by
          have hv' : (vs.contains i && tgIn vs r) = true := hv
          rw [Bool.and_eq_true] at hv'
          rw [hw vs hv'.2, wipe_set hv'.1]⟩
    · cases h1
  | .cons (.tp ts) r, e :: es, h => by
    unfold okG.okGs at h
    rw [Bool.and_eq_true] at h
    have ih := pgs_ok x h.2
    have h1 := h.1
    split at h1
    · rename_i es2 k2 p
      have ih2 := pgs_ok x h1
      obtain ⟨f1, f2⟩ := findStar (env := X.env) (okGs_form h1)
      refine PGs.dyn fun v σ H Q ⟨ι, G, μ, env, env', ds, R, S, rl, ha, k⟩ => ⟨_, pgs_cons (pg_tup x.calm ih2 rfl f2) ih, ?_⟩
      cases rl with
      | nil => cases ha
      | @cons v1 vs1 d1 ds1 hd hl =>
        have hd2 : ∃ ys, (d1 = .tup ys ∨ d1 = .wtup ys) ∧ (asgT.asgTs ts ys env).bind (asgT.asgTs r ds1) = some env' := by
          cases d1 with
          | tup ys => exact ⟨ys, .inl rfl, ha⟩
          | wtup ys => exact ⟨ys, .inr rfl, ha⟩
          | _ => cases ha
        obtain ⟨ys, hy, hb⟩ := hd2
        obtain ⟨env2, hb1, hb2⟩ := Option.bind_eq_some_iff.mp hb
        obtain ⟨a, us, rfl, ht, hr⟩ := tup_view R hd hy
        refine ⟨_, _, rfl, a, us, rfl, by rw [x.eK]; exact ht, ?_, ι, G, μ, env, env2, ys, R, S, hr, hb1, fun σ' S' hl' hw => ⟨ι, G, μ, env2, env', ds1, R, S', hl, hb2, fun σ2 S2 hl2 hw2 => k σ2 S2 (by rw [hl2, hl']) fun vs hv => by
          have hv' : (tgIn vs ts && tgIn vs r) = true := hv
          rw [Bool.and_eq_true] at hv'
          rw [hw2 vs hv'.2, hw vs hv'.1]⟩⟩
        rw [f1, hr.length, asgTs_len h1 hb1]
    · cases h1
  | .nil, _ :: _, h => by cases h
  | .nm _, _, h => by unfold okG.okGs at h; cases h
  | .tp _, _, h => by unfold okG.okGs at h; cases h
  | .cons (.nm _) _, [], h => by cases h
  | .cons (.tp _) _, [], h => by cases h
  | .cons .nil _, _, h => by unfold okG.okGs at h; cases h
  | .cons (.cons _ _) _, _, h => by unfold okG.okGs at h; cases h
theorem pg_ok {fl : Bool} (x : GOk q sc N fl X) {tg : TGT} {e : Expr} (h : okG N sc fl tg e = true) : PG X e (tG q.T tg) := by
  cases tg with
  | nm i => cases e with
    | Name y p =>
      have h' : (decide (N[i]? = some y) && (match sc.names.lookup y with
        | some .local => true
        | some .cell => fl
        | _ => false)) = true := h
      rw [Bool.and_eq_true] at h'
      exact PG.dyn fun v σ H Q ⟨ι, G, μ, env, env', d, R, S, rd, ha, k⟩ => ⟨_, pg_nm x (of_decide_eq_true h'.1) h'.2, by cases ha; exact k _ (S.set rd i) (by rw [List.length_set]) fun vs hv => wipe_set hv⟩
    | _ => cases h
  | tp ts => cases e with
    | Tuple es k2 p =>
      have h' : okG.okGs N sc fl ts es = true := h
      obtain ⟨f1, f2⟩ := findStar (env := X.env) (okGs_form h')
      refine PG.dyn fun v σ H Q ⟨ι, G, μ, env, env', d, R, S, rd, ha, k⟩ => ⟨_, pg_tup x.calm (pgs_ok x h') rfl f2, ?_⟩
      have hd2 : ∃ ys, (d = .tup ys ∨ d = .wtup ys) ∧ asgT.asgTs ts ys env = some env' := by
        cases d with
        | tup ys => exact ⟨ys, .inl rfl, ha⟩
        | wtup ys => exact ⟨ys, .inr rfl, ha⟩
        | _ => cases ha
      obtain ⟨ys, hy, hb⟩ := hd2
      obtain ⟨a, us, rfl, ht, hr⟩ := tup_view R rd hy
      exact ⟨a, us, rfl, by rw [x.eK]; exact ht, by rw [f1, hr.length, asgTs_len h' hb], ι, G, μ, env, env', ys, R, S, hr, hb, k⟩
    | _ => cases h
  | _ => cases e <;> cases h
end Co

set_option linter.all false
set_option maxRecDepth 100000
set_option Elab.async false
/-! Co16: what is walked. -/
namespace Co
open PySem L2
variable {q : Cq} {sc : Scope} {N : List Str} {W : WX} {X : Cx}
structure ItD (T : Nam) (J : It) (ι : List Addr) (G : Hp) (k : ITK) (ds xs : List D) (tg : Bool) : Prop where
  go : ∀ {i : Nat} {ι' : List Addr} {G' : Hp} {μ' : Store} {H : Hp}, Grow ι ι' G G' → RelH T ι' G' μ' H → itemsOf μ' k ds = some xs → tagOf μ' ds = tg → i < xs.length → J.go i H
  stop : ∀ {i : Nat} {ι' : List Addr} {G' : Hp} {μ' : Store} {H : Hp}, Grow ι ι' G G' → RelH T ι' G' μ' H → itemsOf μ' k ds = some xs → tagOf μ' ds = tg → xs.length ≤ i → J.stop i H
  yld : ∀ {i : Nat} {x : V} {ι' : List Addr} {G' : Hp} {μ' : Store} {H H' : Hp}, Grow ι ι' G G' → RelH T ι' G' μ' H → itemsOf μ' k ds = some xs → tagOf μ' ds = tg → i < xs.length → J.yld i H x H' →
    ∃ d G'', xs[i]? = some d ∧ Grow ι' ι' G' G'' ∧ RelH T ι' G'' μ' H' ∧ RepD T ι' G'' x d
section
variable {T : Nam} {ι : List Addr} {G : Hp}
/-- a tuple that stands, made known -/
theorem RelH.know {μ : Store} {H : Hp} (r : RelH T ι G μ H) {p : Addr} {vs : List V} (h : H p = some (.tup vs)) : ∃ G', Grow ι ι G G' ∧ RelH T ι G' μ H ∧ G' p = some (.tup vs) := by
  cases e : G p with
  | some u =>
    have h1 := r.fz.at_ p u e
    rw [h] at h1
    have : u = .tup vs := by
      have h2 := Option.some.inj h1
      cases u with
      | frz o w => cases w <;> exact HO.noConfusion h2
      | _ => exact h2.symm
    exact ⟨G, Grow.refl _ _, r, by rw [e, this]⟩
  | none =>
    have g : Grow ι ι G (upd G p (.tup vs)) := ⟨fun _ _ e => e, Evl.Ex.new e⟩
    refine ⟨_, g, ⟨⟨fun b u z => ?_⟩, r.len, r.nd, r.trk, fun i b c e1 e2 => ?_⟩, upd_same⟩
    · by_cases q : b = p
      · subst q
        rw [upd_same] at z
        cases z
        exact h
      · rw [upd_ne q] at z
        exact r.fz.at_ b u z
    · have hc := r.cel i b c e1 e2
      refine hc.grow g ?_ fun _ z => z
      cases hf : c.free
      · exact .inr rfl
      · refine .inl ?_
        have q : b ≠ p := fun z => by
          subst z
          cases hc with
          | dead => cases hf
          | lst _ h2 _ => rw [h] at h2; cases h2
          | dicK _ h2 _ => rw [h] at h2; cases h2
          | dicT _ h2 _ => rw [h] at h2; cases h2
          | ins _ h2 _ => rw [h] at h2; cases h2
          | ldicK _ h2 _ => cases hf
          | ldicT _ h2 _ => cases hf
        rw [upd_ne q]
        exact hc.free hf
theorem itd_lst {a : Addr} {d : D} {xs : List D} {k : ITK} (r : RepD T ι G (.ref a) d) (h : ∀ μ', itemsOf μ' k [d] = some xs → tagOf μ' [d] = false → lstOf μ' d = some xs) : ItD T (Itl T.K a) ι G k [d] xs false where
  go := fun {i ι' G' μ' H} g R e t hi => by
    obtain ⟨b, vs, hb, h1, h2⟩ := R.lstOf (r.mono g) (h _ e t)
    cases hb
    obtain ⟨v, hv, _⟩ := h2.get (List.getElem?_eq_getElem hi)
    exact ⟨vs, v, .inl h1, hv⟩
  stop := fun {i ι' G' μ' H} g R e t hi => by
    obtain ⟨b, vs, hb, h1, h2⟩ := R.lstOf (r.mono g) (h _ e t)
    cases hb
    exact ⟨vs, .inl h1, by rw [h2.length]; exact hi⟩
  yld := fun {i x ι' G' μ' H H'} g R e t hi y => by
    obtain ⟨b, vs, hb, h1, h2⟩ := R.lstOf (r.mono g) (h _ e t)
    cases hb
    obtain ⟨rfl, y2⟩ := y
    obtain ⟨x, hx, rx⟩ := h2.get' (y2 vs (.inl h1))
    exact ⟨x, _, hx, Grow.refl _ _, R, rx⟩
theorem itd_tup {a : Addr} {d : D} {vs : List V} {xs : List D} {k : ITK} (h0 : SqT T.K G a vs) (h2 : RepL T ι G vs xs) : ItD T (Itt T.K a) ι G k [d] xs false where
  go := fun {i ι' G' μ' H} g R e t hi => by
    obtain ⟨v, hv, _⟩ := h2.get (List.getElem?_eq_getElem hi)
    exact ⟨vs, v, R.fz.sqt (Evl.ex_t g.ex h0), hv⟩
  stop := fun {i ι' G' μ' H} g R e t hi => ⟨vs, R.fz.sqt (Evl.ex_t g.ex h0), by rw [h2.length]; exact hi⟩
  yld := fun {i x ι' G' μ' H H'} g R e t hi y => by
    obtain ⟨rfl, y2⟩ := y
    obtain ⟨x, hx, rx⟩ := h2.get' (y2 vs (R.fz.sqt (Evl.ex_t g.ex h0)))
    exact ⟨x, _, hx, Grow.refl _ _, R, rx.mono g⟩
theorem itd_str {z : Str} (hx : strK z) {k : ITK} : ItD T (Its z) ι G k [.str z] (signs z) false where
  go := fun {i ι' G' μ' H} g R e t hi => by
    unfold signs at hi
    rw [List.length_map, Array.length_toList] at hi
    exact hi
  stop := fun {i ι' G' μ' H} g R e t hi => by
    unfold signs at hi
    rw [List.length_map, Array.length_toList] at hi
    exact hi
  yld := fun {i x ι' G' μ' H H'} g R e t hi y => by
    obtain ⟨rfl, c, hc, rfl⟩ := y
    have hc' : z.cps.toList[i]? = some c := by rw [Array.getElem?_toList]; exact hc
    refine ⟨.str ⟨#[c]⟩, _, ?_, Grow.refl _ _, R, .str fun c' hc2 => ?_⟩
    · unfold signs
      rw [List.getElem?_map, hc']
      rfl
    · have e : c' = c := by simpa using hc2
      rw [e]
      exact hx c (List.mem_of_getElem? hc')
theorem itd_rng {lo : Int} {n : Nat} {ds xs : List D} {k : ITK} {tg : Bool} (hx : xs = (List.range n).map fun (i : Nat) => D.int (lo + (i : Int))) : ItD T (Itr lo n) ι G k ds xs tg where
  go := fun {i ι' G' μ' H} g R e t hi => by
    rw [hx, List.length_map, List.length_range] at hi
    exact hi
  stop := fun {i ι' G' μ' H} g R e t hi => by
    rw [hx, List.length_map, List.length_range] at hi
    exact hi
  yld := fun {i x ι' G' μ' H H'} g R e t hi y => by
    obtain ⟨rfl, rfl⟩ := y
    refine ⟨.int (lo + (i : Int)), _, ?_, Grow.refl _ _, R, .int _⟩
    rw [hx, List.length_map, List.length_range] at hi
    rw [hx, List.getElem?_map, List.getElem?_range hi]
    rfl
theorem itd_rev {a : Addr} {d : D} {xs : List D} {n : Nat} {k : ITK} {tg : Bool} (r : RepD T ι G (.ref a) d) (hn : n = xs.length) (h : ∀ μ', itemsOf μ' k [d] = some xs → ∃ ys, lstOf μ' d = some ys ∧ xs = ys.reverse) : ItD T (Itv T.K a n) ι G k [d] xs tg where
  go := fun {i ι' G' μ' H} g R e t hi => by
    obtain ⟨ys, hy, rfl⟩ := h _ e
    rw [List.length_reverse] at hi hn
    obtain ⟨b, vs, hb, h1, h2⟩ := R.lstOf (r.mono g) hy
    cases hb
    obtain ⟨v, hv, _⟩ := h2.get (i := n - 1 - i) (List.getElem?_eq_getElem (by omega))
    exact ⟨by omega, vs, v, .inl h1, hv⟩
  stop := fun {i ι' G' μ' H} g R e t hi => by
    show n ≤ _
    omega
  yld := fun {i x ι' G' μ' H H'} g R e t hi y => by
    obtain ⟨ys, hy, rfl⟩ := h _ e
    rw [List.length_reverse] at hi hn
    obtain ⟨b, vs, hb, h1, h2⟩ := R.lstOf (r.mono g) hy
    cases hb
    obtain ⟨rfl, y2⟩ := y
    obtain ⟨x, hx, rx⟩ := h2.get' (y2 vs (.inl h1))
    refine ⟨x, _, ?_, Grow.refl _ _, R, rx⟩
    rw [List.getElem?_reverse hi, ← hn]
    exact hx
/-- a new pair -/
theorem pair_new {ι' : List Addr} {G' : Hp} {μ' : Store} {H : Hp} (R : RelH T ι' G' μ' H) {p : Addr} (hp : H p = none) {v w : V} {d e : D} (h1 : RepD T ι' G' v d) (h2 : RepD T ι' G' w e) :
    Grow ι' ι' G' (upd G' p (.tup [v, w])) ∧ RelH T ι' (upd G' p (.tup [v, w])) μ' (upd H p (.tup [v, w])) ∧ RepD T ι' (upd G' p (.tup [v, w])) (.ref p) (.tup [d, e]) := by
  have g := Grow.frozen (ι := ι') (.tup [v, w]) (R.fz.free hp)
  exact ⟨g, R.frozen _ hp rfl, .tup upd_same (.cons (h1.mono g) (.cons (h2.mono g) .nil))⟩
theorem enumD_get : ∀ {xs : List D} {n i : Nat} {d : D}, xs[i]? = some d → (enumD n xs)[i]? = some (.tup [.int ((n + i : Nat) : Int), d])
  | [], _, _, _, h => by simp at h
  | x :: r, n, 0, d, h => by
    simp at h
    subst h
    rfl
  | x :: r, n, i + 1, d, h => by
    have e := enumD_get (xs := r) (n := n + 1) (i := i) (d := d) (by simpa using h)
    show (enumD (n + 1) r)[i]? = _
    rw [e]
    have : n + 1 + i = n + (i + 1) := by omega
    rw [this]
theorem enumD_len : ∀ {xs : List D} {n : Nat}, (enumD n xs).length = xs.length
  | [], _ => rfl
  | x :: r, n => by
    show (enumD (n + 1) r).length + 1 = r.length + 1
    rw [enumD_len]
theorem itd_enum {a : Addr} {d : D} {xs : List D} {tg : Bool} (r : RepD T ι G (.ref a) d) : ItD T (Ite T.K a) ι G .enum [d] xs tg where
  go := fun {i ι' G' μ' H} g R e t hi => by
    have e' : (lstOf μ' d).map (enumD 0) = some xs := e
    obtain ⟨ys, hy, rfl⟩ := Option.map_eq_some_iff.mp e'
    rw [enumD_len] at hi
    obtain ⟨b, vs, hb, h1, h2⟩ := R.lstOf (r.mono g) hy
    cases hb
    obtain ⟨v, hv, _⟩ := h2.get (List.getElem?_eq_getElem hi)
    exact ⟨vs, v, .inl h1, hv⟩
  stop := fun {i ι' G' μ' H} g R e t hi => by
    have e' : (lstOf μ' d).map (enumD 0) = some xs := e
    obtain ⟨ys, hy, rfl⟩ := Option.map_eq_some_iff.mp e'
    rw [enumD_len] at hi
    obtain ⟨b, vs, hb, h1, h2⟩ := R.lstOf (r.mono g) hy
    cases hb
    exact ⟨vs, .inl h1, by rw [h2.length]; exact hi⟩
  yld := fun {i x ι' G' μ' H H'} g R e t hi y => by
    have e' : (lstOf μ' d).map (enumD 0) = some xs := e
    obtain ⟨ys, hy, rfl⟩ := Option.map_eq_some_iff.mp e'
    obtain ⟨b, vs, hb, h1, h2⟩ := R.lstOf (r.mono g) hy
    cases hb
    obtain ⟨p, w, rfl, hp, rfl, y2⟩ := y
    obtain ⟨z, hz, rz⟩ := h2.get' (y2 vs (.inl h1))
    obtain ⟨g2, R2, r2⟩ := pair_new R hp (.int (i : Int)) rz
    refine ⟨_, _, ?_, g2, R2, r2⟩
    have := enumD_get (n := 0) hz
    rw [Nat.zero_add] at this
    exact this
theorem itd_zip {a b : Addr} {d e : D} {xs : List D} {tg : Bool} (r : RepD T ι G (.ref a) d) (r2 : RepD T ι G (.ref b) e) : ItD T (Itz T.K a b) ι G .zip [d, e] xs tg := by
  have vw : ∀ {ι' : List Addr} {G' : Hp} {μ' : Store} {H : Hp}, Grow ι ι' G G' → RelH T ι' G' μ' H → itemsOf μ' .zip [d, e] = some xs →
      ∃ ys zs vs ws, xs = ((ys.zip zs).map fun p => D.tup [p.1, p.2]) ∧ SqL T.K H a vs ∧ RepL T ι' G' vs ys ∧ SqL T.K H b ws ∧ RepL T ι' G' ws zs := by
    intro ι' G' μ' H g R h
    have h' : (match lstOf μ' d, lstOf μ' e with
      | some xs, some ys => some ((xs.zip ys).map fun p => D.tup [p.1, p.2])
      | _, _ => none) = some xs := h
    split at h'
    · rename_i ys zs h1 h2
      cases h'
      obtain ⟨a', vs, ha, s1, l1⟩ := R.lstOf (r.mono g) h1
      obtain ⟨b', ws, hb, s2, l2⟩ := R.lstOf (r2.mono g) h2
      cases ha
      cases hb
      exact ⟨ys, zs, vs, ws, rfl, .inl s1, l1, .inl s2, l2⟩
    · cases h'
  refine ⟨fun {i ι' G' μ' H} g R h t hi => ?_, fun {i ι' G' μ' H} g R h t hi => ?_, fun {i x ι' G' μ' H H'} g R h t hi y => ?_⟩
  · obtain ⟨ys, zs, vs, ws, rfl, s1, l1, s2, l2⟩ := vw g R h
    rw [List.length_map, List.length_zip] at hi
    obtain ⟨v, hv, _⟩ := l1.get (i := i) (List.getElem?_eq_getElem (by omega))
    obtain ⟨w, hw, _⟩ := l2.get (i := i) (List.getElem?_eq_getElem (by omega))
    exact ⟨vs, ws, v, w, s1, s2, hv, hw⟩
  · obtain ⟨ys, zs, vs, ws, rfl, s1, l1, s2, l2⟩ := vw g R h
    rw [List.length_map, List.length_zip] at hi
    exact ⟨vs, ws, s1, s2, by rw [l1.length, l2.length]; omega⟩
  · obtain ⟨ys, zs, vs, ws, rfl, s1, l1, s2, l2⟩ := vw g R h
    obtain ⟨p, v, w, rfl, hp, rfl, y1, y2⟩ := y
    obtain ⟨d1, hd1, rd1⟩ := l1.get' (y1 vs s1)
    obtain ⟨d2, hd2, rd2⟩ := l2.get' (y2 ws s2)
    obtain ⟨g2, R2, r2⟩ := pair_new R hp rd1 rd2
    have hz : (ys.zip zs)[i]? = some (d1, d2) := List.getElem?_zip_eq_some.mpr ⟨hd1, hd2⟩
    refine ⟨_, _, ?_, g2, R2, r2⟩
    rw [List.getElem?_map, hz]
    rfl
theorem RepK.get' : ∀ {v : List (Key × V)} {d : List (D × D)} {i : Nat} {k : Key} {u : V}, RepK T ι G v d → v[i]? = some (k, u) → ∃ x, d[i]? = some (kD k, x) ∧ keyK k ∧ RepD T ι G u x
  | _, _, _, _, _, .nil, h => by simp at h
  | _, _, 0, _, _, .cons hk hd hl, h => by
    simp at h
    obtain ⟨rfl, rfl⟩ := h
    exact ⟨_, rfl, hk, hd⟩
  | _, _, i + 1, _, _, .cons hk hd hl, h => by
    obtain ⟨x, h1, h2⟩ := RepK.get' (i := i) hl (by simpa using h)
    exact ⟨x, by simpa using h1, h2⟩
theorem RepT.get' : ∀ {v : List (List Key × V)} {d : List (D × D)} {i : Nat} {k : List Key} {u : V}, RepT T ι G v d → v[i]? = some (k, u) → ∃ x, d[i]? = some (.tup (k.map kD), x) ∧ (∀ y ∈ k, keyK y) ∧ RepD T ι G u x
  | _, _, _, _, _, .nil, h => by simp at h
  | _, _, 0, _, _, .cons hk hd hl, h => by
    simp at h
    obtain ⟨rfl, rfl⟩ := h
    exact ⟨_, rfl, hk, hd⟩
  | _, _, i + 1, _, _, .cons hk hd hl, h => by
    obtain ⟨x, h1, h2⟩ := RepT.get' (i := i) hl (by simpa using h)
    exact ⟨x, by simpa using h1, h2⟩
theorem rep_key {k : Key} (h : keyK k) : RepD T ι G (kV k) (kD k) := by
  cases k with
  | inl i => exact .int i
  | inr x => exact .str h
theorem rep_keys : ∀ {k : List Key}, (∀ y ∈ k, keyK y) → RepL T ι G (k.map kV) (k.map kD)
  | [], _ => .nil
  | x :: r, h => .cons (rep_key (h x List.mem_cons_self)) (rep_keys fun y hy => h y (List.mem_cons_of_mem _ hy))
/-- where a dict stands locked -/
def Lkd (T : Nam) (ι : List Addr) (G : Hp) (a : Addr) (u : HO) : Prop := ∀ ι' G' μ' H, Grow ι ι' G G' → RelH T ι' G' μ' H → H a = some u
theorem itd_keys {a : Addr} {o : Obj} {kvs : List (Key × V)} {ds : List (D × D)} {d : D} {k : ITK} {tg : Bool} (hl : Lkd T ι G a (.frz o (.dK kvs))) (r : RepK T ι G kvs ds) : ItD T (Itk a o kvs) ι G k [d] (ds.map fun p => p.1) tg where
  go := fun {i ι' G' μ' H} g R e t hi => ⟨hl _ _ _ _ g R, by rw [r.length]; rwa [List.length_map] at hi⟩
  stop := fun {i ι' G' μ' H} g R e t hi => ⟨hl _ _ _ _ g R, by rw [r.length]; rwa [List.length_map] at hi⟩
  yld := fun {i x ι' G' μ' H H'} g R e t hi y => by
    obtain ⟨rfl, key, v, hk, rfl⟩ := y
    obtain ⟨x, h1, h2, h3⟩ := r.get' hk
    exact ⟨kD key, _, by rw [List.getElem?_map, h1]; rfl, Grow.refl _ _, R, rep_key h2⟩
theorem itd_keysT {a : Addr} {o : Obj} {kvs : List (List Key × V)} {ds : List (D × D)} {d : D} {k : ITK} {tg : Bool} (hl : Lkd T ι G a (.frz o (.dT kvs))) (r : RepT T ι G kvs ds) : ItD T (Itkt a o kvs) ι G k [d] (ds.map fun p => p.1) tg where
  go := fun {i ι' G' μ' H} g R e t hi => ⟨hl _ _ _ _ g R, by rw [r.length]; rwa [List.length_map] at hi⟩
  stop := fun {i ι' G' μ' H} g R e t hi => ⟨hl _ _ _ _ g R, by rw [r.length]; rwa [List.length_map] at hi⟩
  yld := fun {i x ι' G' μ' H H'} g R e t hi y => by
    obtain ⟨rfl, key, v, p, hk, rfl, hp⟩ := y
    obtain ⟨x, h1, h2, h3⟩ := r.get' hk
    obtain ⟨G'', g2, R2, e2⟩ := R.know hp
    exact ⟨.tup (key.map kD), G'', by rw [List.getElem?_map, h1]; rfl, g2, R2, .tup e2 (rep_keys h2)⟩
theorem itd_items {a : Addr} {o : Obj} {kvs : List (Key × V)} {ds : List (D × D)} {d : D} {k : ITK} {tg : Bool} (hl : Lkd T ι G a (.frz o (.dK kvs))) (r : RepK T ι G kvs ds) : ItD T (Iti a o kvs) ι G k [d] (ds.map fun p => .tup [p.1, p.2]) tg where
  go := fun {i ι' G' μ' H} g R e t hi => ⟨hl _ _ _ _ g R, by rw [r.length]; rwa [List.length_map] at hi⟩
  stop := fun {i ι' G' μ' H} g R e t hi => ⟨hl _ _ _ _ g R, by rw [r.length]; rwa [List.length_map] at hi⟩
  yld := fun {i x ι' G' μ' H H'} g R e t hi y => by
    obtain ⟨p, key, v, hk, rfl, hp, rfl⟩ := y
    obtain ⟨x, h1, h2, h3⟩ := r.get' hk
    obtain ⟨g2, R2, r2⟩ := pair_new R hp (rep_key h2) (h3.mono g)
    exact ⟨_, _, by rw [List.getElem?_map, h1]; rfl, g2, R2, r2⟩
/-- a dict that is not written: frozen, or a cell that is locked -/
theorem lkd_of {μ : Store} {H : Hp} (R : RelH T ι G μ H) {v : V} {d : D} {t : Bool} {ds : List (D × D)} (r : RepD T ι G v d) (h : dicOf μ d = some (t, ds)) (hw : ∀ i, d = .cell i → ∀ t' kvs, μ[i]? ≠ some (.dic t' kvs)) :
    ∃ a o, v = .ref a ∧ ((t = false ∧ ∃ kvs, Lkd T ι G a (.frz o (.dK kvs)) ∧ RepK T ι G kvs ds) ∨ (t = true ∧ ∃ kvs, Lkd T ι G a (.frz o (.dT kvs)) ∧ RepT T ι G kvs ds)) := by
  cases r with
  | dicK h1 h2 =>
    cases h
    exact ⟨_, _, rfl, .inl ⟨rfl, _, fun ι' G' μ' H g R => R.fz.at_ _ _ (g.ex _ _ h1), h2⟩⟩
  | dicT h1 h2 =>
    cases h
    exact ⟨_, _, rfl, .inr ⟨rfl, _, fun ι' G' μ' H g R => R.fz.at_ _ _ (g.ex _ _ h1), h2⟩⟩
  | cell hi =>
    rename_i a i
    unfold Co.dicOf at h
    simp only at h
    split at h
    · rename_i t' ys hc
      exact absurd hc (hw i rfl _ _)
    · rename_i t' ys hc
      cases h
      cases R.cel i a _ hi hc with
      | ldicK h1 h2 h3 => exact ⟨a, _, rfl, .inl ⟨rfl, _, fun ι' G' μ' H g R => R.fz.at_ _ _ (g.ex _ _ h1), h3⟩⟩
      | ldicT h1 h2 h3 => exact ⟨a, _, rfl, .inr ⟨rfl, _, fun ι' G' μ' H g R => R.fz.at_ _ _ (g.ex _ _ h1), h3⟩⟩
    · cases h
  | _ => cases h
end
end Co

set_option linter.all false
set_option maxRecDepth 100000
set_option Elab.async false
/-! Co17: the rules for what is walked. -/
namespace Co
open PySem L2
variable {q : Cq} {sc : Scope} {N : List Str} {W : WX} {X : Cx}
theorem PI.dyn {tg e : Expr} {t' : TI} (h : ∀ σ H R, t' σ H R → ∃ t, PI X tg e t ∧ t σ H R) : PI X tg e t' := ⟨fun pins s σ H R I q => by
  obtain ⟨t, h1, h2⟩ := h σ H R q
  exact h1.run pins s σ H R I h2⟩
def CtI (T : Nam) (W : WX) (σ : L2.St) (ι : List Addr) (G : Hp) (k : ITK) (r : RA) (R : It → Hp → Prop) : Prop := match r with
  | .ok ds μ => ∃ xs, itemsOf μ k ds = some xs ∧ walkedC μ k ds = none ∧ ∀ ι' G' H J, Grow ι ι' G G' → RelH T ι' G' μ H → ItD T J ι' G' k ds xs (tagOf μ ds) → R J H
  | .ex x μ => ∀ (cls : Value) (dd : Option Addr) (ι' : List Addr) (G' H : Hp), Grow ι ι' G G' → RelH T ι' G' μ H → RepX T ι' G' H cls dd x → W cls dd σ H
  | .bad => False
def tI (q : Cq) (W : WX) (k : ITK) (c : CE) : TI := fun σ H R => ∃ (env : Env) (μ : Store) (ι : List Addr) (G : Hp), RelH q.T ι G μ H ∧ RelS q.T ι G env σ ∧ CtI q.T W σ ι G k (evA q.P q.call c env μ) R
theorem CtI.toA {T : Nam} {σ : L2.St} {ι : List Addr} {G : Hp} {k : ITK} {r : RA} {R : It → Hp → Prop} {Q : List V → Hp → Prop} (c : CtI T W σ ι G k r R)
    (h : ∀ ds μ1 vs ι' G' H xs, itemsOf μ1 k ds = some xs → walkedC μ1 k ds = none → RelH T ι' G' μ1 H → RepL T ι' G' vs ds → (∀ J, ItD T J ι' G' k ds xs (tagOf μ1 ds) → R J H) → Q vs H) : CtA T W σ ι G r Q := by
  cases r with
  | bad => exact c
  | ex y μ1 => exact c
  | ok ds μ1 =>
    obtain ⟨xs, hx, hw, k⟩ := c
    exact fun vs ι' G' H g r rl => h ds μ1 vs ι' G' H xs hx hw r rl fun J d => k ι' G' H J g r d
/-- one thing walked -/
theorem CtI.one {σ : L2.St} {ι : List Addr} {G : Hp} {k : ITK} {a : CE} {env : Env} {μ : Store} {R : It → Hp → Prop} (c : CtI q.T W σ ι G k (evA q.P q.call (.acons a .anil) env μ) R) :
    (∃ d μ1 xs, evE q.P q.call a env μ = .ok d μ1 ∧ itemsOf μ1 k [d] = some xs ∧ walkedC μ1 k [d] = none ∧ ∀ ι' G' H J, Grow ι ι' G G' → RelH q.T ι' G' μ1 H → ItD q.T J ι' G' k [d] xs (tagOf μ1 [d]) → R J H) ∨
      ∃ y μ1, evE q.P q.call a env μ = .ex y μ1 ∧ ∀ Q, Ct q.T W σ ι G (.ex y μ1) Q := by
  have c' : CtI q.T W σ ι G k ((evE q.P q.call a env μ).bind fun d μ => Res.ok [d] μ) R := c
  cases ea : evE q.P q.call a env μ with
  | bad => rw [ea] at c'; exact c'.elim
  | ex y μ1 =>
    rw [ea] at c'
    exact .inr ⟨y, μ1, rfl, fun Q => c'⟩
  | ok d μ1 =>
    rw [ea] at c'
    obtain ⟨xs, hx, hw, k⟩ := c'
    exact .inl ⟨d, μ1, xs, rfl, hx, hw, k⟩
theorem seq_lst {μ : Store} {d : D} {xs : List D} (h : itemsOf μ .seq [d] = some xs) (hs : ∀ z, d ≠ .str z) (hd : dicOf μ d = none) : seqOf μ d = some xs := by
  unfold itemsOf at h
  cases d <;> simp only [hd] at h <;> first | exact h | exact absurd rfl (hs _)
theorem cell_lst' {μ : Store} {i : Nat} {xs : List D} (h : itemsOf μ .seq [.cell i] = some xs) (hd : tagOf μ [.cell i] = false) : lstOf μ (.cell i) = some xs :=
  seq_lst h (fun _ e => nomatch e) (by
    have h2 : (dicOf μ (.cell i)).isSome = false := hd
    cases e : dicOf μ (.cell i) with
    | none => rfl
    | some _ => rw [e] at h2; cases h2)
theorem walked_cell {μ : Store} {i : Nat} (h : walkedC μ .seq [.cell i] = none) : ∀ j, D.cell i = .cell j → ∀ t' kvs, μ[j]? ≠ some (.dic t' kvs) := fun j e t' kvs z => by
  cases e
  simp [walkedC, z] at h
theorem walked_cell2 {μ : Store} {i : Nat} (h : walkedC μ .items [.cell i] = none) : ∀ j, D.cell i = .cell j → ∀ t' kvs, μ[j]? ≠ some (.dic t' kvs) := fun j e t' kvs z => by
  cases e
  simp [walkedC, z] at h
theorem pi_seq (x : XOk q sc N W X) {a : CE} {tg e : Expr} (ha : PE X e (tE q W a)) : PI X tg e (tI q W .seq (.acons a .anil)) := by
  refine PI.dyn fun σ H R ⟨env, μ, ι, G, R0, S, c⟩ => ?_
  rcases c.one with ⟨d, μ1, xs, ea, hx, hw, k⟩ | ⟨y, μ1, ea, ke⟩
  · -- a dict
    have dictC : ∀ t ds, dicOf μ1 d = some (t, ds) → (∀ i, d = .cell i → ∀ t' kvs, μ1[i]? ≠ some (.dic t' kvs)) → (∀ z, d ≠ .str z) → ∃ t, PI X tg e t ∧ t σ H R := fun t ds hd hnc hs => by
      refine ⟨_, pi_keys ha, env, μ, ι, G, R0, S, ?_⟩
      rw [ea]
      intro v ι' G' H' g r rv
      have hx' : xs = ds.map fun p => p.1 := by
        unfold itemsOf at hx
        cases d <;> simp only [hd, Option.some.injEq] at hx <;> first | exact hx.symm | exact absurd rfl (hs _)
      obtain ⟨p, o, rfl, h⟩ := lkd_of r rv hd hnc
      rcases h with ⟨_, kvs, hl, hr⟩ | ⟨_, kvs, hl, hr⟩
      · exact ⟨p, o, rfl, .inl ⟨kvs, hl _ _ _ _ (Grow.refl _ _) r, k _ _ _ _ g r (by rw [hx']; exact itd_keys hl hr)⟩⟩
      · exact ⟨p, o, rfl, .inr ⟨kvs, hl _ _ _ _ (Grow.refl _ _) r, k _ _ _ _ g r (by rw [hx']; exact itd_keysT hl hr)⟩⟩
    have lstC : (∀ μ', itemsOf μ' .seq [d] = some xs → tagOf μ' [d] = false → lstOf μ' d = some xs) → tagOf μ1 [d] = false → ∃ t, PI X tg e t ∧ t σ H R := fun h ht => by
      refine ⟨_, pi_list ha, env, μ, ι, G, R0, S, ?_⟩
      rw [ea]
      intro v ι' G' H' g r rv
      obtain ⟨p, vs, rfl, h1, h2⟩ := r.lstOf rv (h _ hx ht)
      have := k _ _ _ _ g r (by rw [ht]; exact itd_lst rv h)
      rw [x.eK]
      exact ⟨p, rfl, ⟨vs, .inl h1⟩, this⟩
    have tupC : ∀ ys, d = .tup ys ∨ d = .wtup ys → ∃ t, PI X tg e t ∧ t σ H R := fun ys h => by
      have hx' : ys = xs := by
        rcases h with rfl | rfl <;> · cases hx; rfl
      have ht : tagOf μ1 [d] = false := by rcases h with rfl | rfl <;> rfl
      refine ⟨_, pi_tup ha, env, μ, ι, G, R0, S, ?_⟩
      rw [ea, x.eK]
      intro v ι' G' H' g r rv
      have hg : ∃ p vs, v = .ref p ∧ SqT q.T.K G' p vs ∧ RepL q.T ι' G' vs ys := by
        rcases h with rfl | rfl
        · cases rv with
          | tup e l => exact ⟨_, _, rfl, .inl (.inl e), l⟩
        · cases rv with
          | wtup e l => exact ⟨_, _, rfl, e, l⟩
      obtain ⟨p, vs, rfl, h1, h2⟩ := hg
      exact ⟨p, rfl, ⟨vs, r.fz.sqt h1⟩, k _ _ _ _ g r (by rw [ht, ← hx']; exact itd_tup h1 h2)⟩
    cases d with
    | str z =>
      refine ⟨_, pi_str ha, env, μ, ι, G, R0, S, ?_⟩
      rw [ea]
      intro v ι' G' H' g r rv
      cases rv with
      | str hk =>
        cases hx
        exact ⟨z, rfl, k _ _ _ _ g r (itd_str hk)⟩
    | tup ys => exact tupC ys (.inl rfl)
    | wtup ys => exact tupC ys (.inr rfl)
    | lst ys => exact lstC (fun μ' h _ => h) rfl
    | dic t kvs => exact dictC t kvs rfl (fun i e => nomatch e) (fun z e => nomatch e)
    | cell i =>
      cases hd : dicOf μ1 (.cell i) with
      | some p => exact dictC p.1 p.2 hd (walked_cell hw) (fun z e => nomatch e)
      | none => exact lstC (fun μ' h ht => cell_lst' h ht) (by
          show (dicOf μ1 (.cell i)).isSome = false
          rw [hd]; rfl)
    | _ => cases hx
  · exact ⟨_, pi_list ha, env, μ, ι, G, R0, S, by rw [ea]; exact ke _⟩
theorem blt_mg (x : XOk q sc N W X) {y : Str} (h : y ∈ blts) : X.mg y = none := x.lk.blt y h
theorem items_rng1 {μ : Store} : ∀ {ds xs : List D}, itemsOf μ .rng1 ds = some xs → ∃ n, ds = [.int n] ∧ inR n = true ∧ xs = (List.range n.toNat).map fun (i : Nat) => D.int (i : Int)
  | [.int n], xs, h => by
    have h' : (if inR n then some ((List.range n.toNat).map fun (i : Nat) => D.int (i : Int)) else none) = some xs := h
    split at h'
    · cases h'
      exact ⟨n, rfl, by assumption, rfl⟩
    · cases h'
  | [], _, h => by cases h
  | a :: b :: _, _, h => by cases a <;> cases h
  | [.non], _, h => by cases h
  | [.bl _], _, h => by cases h
  | [.str _], _, h => by cases h
  | [.tup _], _, h => by cases h
  | [.wtup _], _, h => by cases h
  | [.lst _], _, h => by cases h
  | [.dic _ _], _, h => by cases h
  | [.ins _ _], _, h => by cases h
  | [.cell _], _, h => by cases h
theorem items_rng2 {μ : Store} : ∀ {ds xs : List D}, itemsOf μ .rng2 ds = some xs → ∃ n m, ds = [.int n, .int m] ∧ inR n = true ∧ inR m = true ∧ xs = (List.range (m - n).toNat).map fun (i : Nat) => D.int (n + (i : Int))
  | [.int n, .int m], xs, h => by
    have h' : (if inR n && inR m then some ((List.range (m - n).toNat).map fun (i : Nat) => D.int (n + (i : Int))) else none) = some xs := h
    split at h'
    · rename_i hr
      cases h'
      rw [Bool.and_eq_true] at hr
      exact ⟨n, m, rfl, hr.1, hr.2, rfl⟩
    · cases h'
  | [], _, h => by cases h
  | [a], _, h => by cases a <;> cases h
  | [a, b], _, h => by
    cases a with
    | int n => cases b with
      | int m =>
        have h' : (if inR n && inR m then some ((List.range (m - n).toNat).map fun (i : Nat) => D.int (n + (i : Int))) else none) = some _ := h
        split at h'
        · rename_i hr
          cases h'
          rw [Bool.and_eq_true] at hr
          exact ⟨n, m, rfl, hr.1, hr.2, rfl⟩
        · cases h'
      | _ => cases h
    | _ => cases b <;> cases h
  | a :: b :: _ :: _, _, h => by cases a <;> first | cases h | (cases b <;> cases h)
theorem pi_rng1 (x : XOk q sc N W X) {as : CE} {tg e : Expr} {p pos : Pos} (hg : glB sc "range" = true) (hp : plE e = true) (ha : PA X [e] (tA q W as)) : PI X tg (.Call (.Name "range" p) [e] [] pos) (tI q W .rng1 as) := by
  refine PI.dyn fun σ H R ⟨env, μ, ι, G, R0, S, c⟩ => ⟨_, pi_range1 (x.gl hg) (blt_mg x (by decide)) ha (pl_star hp [] X.env), env, μ, ι, G, R0, S, c.toA fun ds μ1 vs ι' G' H xs hx hw r rl k => ?_⟩
  obtain ⟨n, rfl, hr, rfl⟩ := items_rng1 hx
  cases rl with
  | cons h1 h2 =>
    cases h1
    cases h2
    have hr' := of_decide_eq_true hr
    exact ⟨n, rfl, hr'.1, hr'.2, k _ (itd_rng (by simp))⟩
theorem pi_rng2 (x : XOk q sc N W X) {as : CE} {tg e f : Expr} {p pos : Pos} (hg : glB sc "range" = true) (hp : plE e = true) (hp2 : plE f = true) (ha : PA X [e, f] (tA q W as)) : PI X tg (.Call (.Name "range" p) [e, f] [] pos) (tI q W .rng2 as) := by
  refine PI.dyn fun σ H R ⟨env, μ, ι, G, R0, S, c⟩ => ⟨_, pi_range2 (x.gl hg) (blt_mg x (by decide)) ha (by rw [pl_star hp, pl_star hp2]; rfl) (pl_star hp2 [] X.env), env, μ, ι, G, R0, S, c.toA fun ds μ1 vs ι' G' H xs hx hw r rl k => ?_⟩
  obtain ⟨n, m, rfl, hr1, hr2, rfl⟩ := items_rng2 hx
  cases rl with
  | cons h1 h2 =>
    cases h1
    cases h2 with
    | cons h3 h4 =>
      cases h3
      cases h4
      have h1 := of_decide_eq_true hr1
      have h2 := of_decide_eq_true hr2
      exact ⟨n, m, rfl, ⟨h1.1, h1.2, h2.1, h2.2⟩, k _ (itd_rng rfl)⟩
theorem pi_enu (x : XOk q sc N W X) {as : CE} {e : Expr} {elts : List Expr} {kk : Nat} {tpos p pos : Pos} (hg : glB sc "enumerate" = true) (hp : plE e = true) (ha : PA X [e] (tA q W as)) : PI X (.Tuple elts kk tpos) (.Call (.Name "enumerate" p) [e] [] pos) (tI q W .enum as) := by
  refine PI.dyn fun σ H R ⟨env, μ, ι, G, R0, S, c⟩ => ⟨_, pi_enum (x.gl hg) (blt_mg x (by decide)) ha (pl_star hp [] X.env), env, μ, ι, G, R0, S, c.toA fun ds μ1 vs ι' G' H xs hx hw r rl k => ?_⟩
  cases ds with
  | nil => cases hx
  | cons d ds => cases ds with
    | cons _ _ => cases hx
    | nil =>
      have hx' : (lstOf μ1 d).map (enumD 0) = some xs := hx
      obtain ⟨ys, hy, rfl⟩ := Option.map_eq_some_iff.mp hx'
      cases rl with
      | cons h1 h2 =>
        cases h2
        obtain ⟨a, us, rfl, s1, l1⟩ := r.lstOf h1 hy
        rw [x.eK]
        exact ⟨a, us, rfl, .inl s1, k _ (itd_enum h1)⟩
theorem pi_zi (x : XOk q sc N W X) {as : CE} {e f : Expr} {elts : List Expr} {kk : Nat} {tpos p pos : Pos} (hg : glB sc "zip" = true) (hp : plE e = true) (hp2 : plE f = true) (ha : PA X [e, f] (tA q W as)) : PI X (.Tuple elts kk tpos) (.Call (.Name "zip" p) [e, f] [] pos) (tI q W .zip as) := by
  refine PI.dyn fun σ H R ⟨env, μ, ι, G, R0, S, c⟩ => ⟨_, pi_zip (x.gl hg) (blt_mg x (by decide)) ha (by rw [pl_star hp]) (by rw [pl_star hp2]; rfl), env, μ, ι, G, R0, S, c.toA fun ds μ1 vs ι' G' H xs hx hw r rl k => ?_⟩
  cases ds with
  | nil => cases hx
  | cons d ds => cases ds with
    | nil => cases hx
    | cons d2 ds => cases ds with
      | cons _ _ => cases hx
      | nil =>
        have hx' : (match lstOf μ1 d, lstOf μ1 d2 with
          | some xs, some ys => some ((xs.zip ys).map fun p => D.tup [p.1, p.2])
          | _, _ => none) = some xs := hx
        split at hx'
        · rename_i ys zs hy hz
          cases rl with
          | cons h1 h2 => cases h2 with
            | cons h3 h4 =>
              cases h4
              obtain ⟨a, us, rfl, s1, l1⟩ := r.lstOf h1 hy
              obtain ⟨b, ws, rfl, s2, l2⟩ := r.lstOf h3 hz
              rw [x.eK]
              exact ⟨a, b, us, ws, rfl, .inl s1, .inl s2, k _ (itd_zip h1 h3)⟩
        · cases hx'
theorem pi_rv (x : XOk q sc N W X) {a : CE} {tg e : Expr} {p pos : Pos} (hg : glB sc "reversed" = true) (hp : plE e = true) (ha : PE X e (tE q W a)) : PI X tg (.Call (.Name "reversed" p) [e] [] pos) (tI q W .rev (.acons a .anil)) := by
  refine PI.dyn fun σ H R ⟨env, μ, ι, G, R0, S, c⟩ => ⟨_, RT.pi_revA (x.gl hg) (blt_mg x (by decide)) ha (pl_star hp [] X.env), env, μ, ι, G, R0, S, ?_⟩
  rcases c.one with ⟨d, μ1, xs, ea, hx, hw, k⟩ | ⟨y, μ1, ea, ke⟩
  · rw [ea, x.eK]
    intro v ι' G' H' g r rv
    have hx' : (lstOf μ1 d).map List.reverse = some xs := hx
    obtain ⟨ys, hy, rfl⟩ := Option.map_eq_some_iff.mp hx'
    obtain ⟨a, us, rfl, s1, l1⟩ := r.lstOf rv hy
    exact ⟨a, us, rfl, .inl ⟨.inl s1, k _ _ _ _ g r (itd_rev rv (by rw [List.length_reverse]; exact l1.length) fun μ' h => by
      have h' : (lstOf μ' d).map List.reverse = some ys.reverse := h
      obtain ⟨zs, hz, e⟩ := Option.map_eq_some_iff.mp h'
      exact ⟨zs, hz, e.symm⟩)⟩⟩
  · rw [ea]
    exact ke _
theorem pi_it (x : XOk q sc N W X) {a : CE} {e : Expr} {elts : List Expr} {kk : Nat} {tpos apos cpos : Pos} (hn : noSup e = true) (hl : (apos.endLine == cpos.line) = true) (ha : PE X e (tE q W a)) :
    PI X (.Tuple elts kk tpos) (.Call (.Attribute e "items" apos) [] [] cpos) (tI q W .items (.acons a .anil)) := by
  refine PI.dyn fun σ H R ⟨env, μ, ι, G, R0, S, c⟩ => ⟨_, pi_items ha (att_base hn _ _ _) hl, env, μ, ι, G, R0, S, ?_⟩
  rcases c.one with ⟨d, μ1, xs, ea, hx, hw, k⟩ | ⟨y, μ1, ea, ke⟩
  · rw [ea]
    intro v ι' G' H' g r rv
    cases hd : dicOf μ1 d with
    | none => simp only [itemsOf, hd] at hx; cases hx
    | some p =>
      obtain ⟨t, ds⟩ := p
      cases t with
      | true => simp only [itemsOf, hd] at hx; cases hx
      | false =>
        simp only [itemsOf, hd, Option.some.injEq] at hx
        obtain ⟨p, o, rfl, h⟩ := lkd_of r rv hd (by
          cases d with
          | cell i => exact walked_cell2 hw
          | _ => exact fun i e => nomatch e)
        rcases h with ⟨_, kvs, hl, hr⟩ | ⟨h, _⟩
        · exact ⟨p, o, kvs, rfl, hl _ _ _ _ (Grow.refl _ _) r, k _ _ _ _ g r (by rw [← hx]; exact itd_items hl hr)⟩
        · cases h
  · rw [ea]
    exact ke _
end Co

set_option linter.all false
set_option maxRecDepth 100000
set_option Elab.async false
/-! Co18: comprehensions. -/
namespace Co
open PySem L2
variable {q : Cq} {sc : Scope} {N : List Str} {W : WX} {X : Cx}
abbrev W0 : WX := fun _ _ _ _ => False
theorem XOk.blk (x : XOk q sc N W X) (s : Shared) (H : Hp) (scope : Scope) (C : Addr) (cl : List (Str × Addr)) (fp : List Addr) : XOk q (relS scope sc) N W0 (X.blk s H scope (compEnvC scope cl C X.env) fp) where
  eK := x.eK
  eS := by
    rw [← x.eS]
    rfl
  eN := x.eN
  nd := x.nd
  calm := x.calm
  room := x.room
  tk := fun u s' h => by
    obtain ⟨a, B, sI, pins, σ, H, cls, d, e, I, nb, up, sky, na, os, ag, w⟩ := h
    exact w.elim
  lk := x.lk
  fns := fun f h => ⟨(x.fns f h).ex⟩
theorem XOk.blkG (x : XOk q sc N W X) (s : Shared) (H : Hp) (scope : Scope) (C : Addr) (cl : List (Str × Addr)) (fp : List Addr) : GOk q (relS scope sc) N false (X.blk s H scope (compEnvC scope cl C X.env) fp) where
  eK := x.eK
  eS := by
    rw [← x.eS]
    rfl
  eN := x.eN
  nd := x.nd
  calm := x.calm
  fnl := fun h => by cases h
/-- the ifs of a comprehension -/
def tIf (q : Cq) (ifs : List Expr) (c : CE) : TT := match ifs with
  | [] => tYes
  | _ => tT q W0 c
def ifB (ifs : List Expr) (c : CE) : Prop := match ifs with
  | [] => c = .lit (.bl true)
  | [_] => True
  | _ => False
/-- to the end of the turns -/
abbrev CtU (T : Nam) := GCt T (fun (_ : List Addr) (_ : Hp) (_ : Unit) (_ : Unit) => True) W0
theorem lc_turns {k : ITK} {c e : CE} {tg : TGT} {ifs : List Expr} {own : List Nat} {env0 : Env} {ds xs : List D} {μ1 : Store} {σ : L2.St} {ι : List Addr} {G H1 : Hp} {J : It} {p : Addr} {Qd : Hp → Prop} {n0 : Nat} (R : RelH q.T ι G μ1 H1) (S : RelS q.T ι G env0 (wipe σ own))
    (hx : itemsOf μ1 k ds = some xs) (hJ : ItD q.T J ι G k ds xs (tagOf μ1 ds)) (hp : H1 p = none) (hi : ifB ifs c) (hg : tgIn own tg = true) (hn : n0 = μ1.length)
    (hc : CtU q.T σ (ι ++ [p]) G (lcL (evE q.P q.call c) (evE q.P q.call e) tg (stayB μ1 k ds xs) n0 xs env0 (μ1 ++ [.lst []])) (fun _ H => Qd H)) :
    ∃ W : Nat → Nat → Hp → Prop, (∃ m, W 0 m (upd H1 p (.lst []))) ∧ ∀ i m H, W i m H →
      (J.stop i H ∧ Qd H) ∨ (J.go i H ∧ ∃ Nx : Hp → Prop, (∀ H', Nx H' → ∃ m', m' < m ∧ W (i + 1) m' H') ∧ ∀ x H', J.yld i H x H' → tG q.T tg x (wipe σ own) H' fun σ2 H2 => wipe σ2 own = wipe σ own ∧ tIf q ifs c σ2 H2 fun b H3 =>
        if b = true then tE q W0 e σ2 H3 fun y H4 => ∃ acc, H4 p = some (.lst acc) ∧ acc.length < sizeLine ∧ Nx (upd H4 p (.lst (acc ++ [y]))) else Nx H3) := by
  have gcell := Grow.cell ι G p
  have R1 := R.cell (c := .lst []) (o := .lst []) hp (.lst (R.fz.free hp) upd_same .nil)
  have hpi : (ι ++ [p])[n0]? = some p := by rw [hn, ← R.len]; simp
  refine ⟨fun i m H => m = xs.length - i ∧ i ≤ xs.length ∧ ∃ (ι' : List Addr) (G' : Hp) (μ' : Store), Grow (ι ++ [p]) ι' G G' ∧ RelH q.T ι' G' μ' H ∧
    CtU q.T σ ι' G' (lcL (evE q.P q.call c) (evE q.P q.call e) tg (stayB μ1 k ds xs) n0 (xs.drop i) env0 μ') (fun _ H => Qd H), ⟨_, rfl, Nat.zero_le _, _, _, _, Grow.refl _ _, R1, hc⟩, ?_⟩
  rintro i m H ⟨rfl, hle, ι', G', μ', g, R', cc⟩
  have gJ := gcell.trans g
  by_cases hlt : i < xs.length
  · have hd : xs.drop i = xs[i] :: xs.drop (i + 1) := List.drop_eq_getElem_cons hlt
    rw [hd] at cc
    unfold lcL at cc
    split at cc
    · rename_i hst
      unfold stayB at hst
      rw [Bool.and_eq_true, decide_eq_true_eq, beq_iff_eq] at hst
      refine .inr ⟨hJ.go gJ R' hst.1 hst.2 hlt, fun H' => xs.length - (i + 1) = xs.length - (i + 1) ∧ i + 1 ≤ xs.length ∧ ∃ (ι' : List Addr) (G' : Hp) (μ' : Store), Grow (ι ++ [p]) ι' G G' ∧ RelH q.T ι' G' μ' H' ∧
        CtU q.T σ ι' G' (lcL (evE q.P q.call c) (evE q.P q.call e) tg (stayB μ1 k ds xs) n0 (xs.drop (i + 1)) env0 μ') (fun _ H => Qd H), fun H' h => ⟨_, by omega, h⟩, fun v H' hy => ?_⟩
      obtain ⟨d, G2, hd2, g2, R2, rd⟩ := hJ.yld gJ R' hst.1 hst.2 hlt hy
      rw [List.getElem?_eq_getElem hlt] at hd2
      cases hd2
      split at cc
      · exact cc.elim
      · rename_i env' ha
        refine ⟨ι', G2, μ', env0, env', _, R2, S.mono (gJ.trans g2), rd, ha, fun σ' S' hl hw => ⟨by rw [hw own hg, wipe_wipe fun i hi => hi], ?_⟩⟩
        have S' : RelS q.T ι' G2 env' σ' := S'
        have cc := GCt.grow cc g2
        -- behind the test
        have next : ∀ (b : Bool) (μ2 : Store) (ι2 : List Addr) (G3 H3 : Hp), Grow ι' ι2 G2 G3 → RelH q.T ι2 G3 μ2 H3 →
            CtU q.T σ ι2 G3 (match (Res.ok b μ2 : Res Exn Bool) with
              | .ok true μ1' => match evE q.P q.call e env' μ1' with
                | .ok d μ2 => match bmS μ2 .append (.cell n0) [d] with
                  | .ok _ μ3 => lcL (evE q.P q.call c) (evE q.P q.call e) tg (stayB μ1 k ds xs) n0 (xs.drop (i + 1)) env0 μ3
                  | _ => .bad
                | _ => .bad
              | .ok false μ1' => lcL (evE q.P q.call c) (evE q.P q.call e) tg (stayB μ1 k ds xs) n0 (xs.drop (i + 1)) env0 μ1'
              | _ => .bad) (fun _ H => Qd H) →
            if b = true then tE q W0 e σ' H3 fun y H4 => ∃ acc, H4 p = some (.lst acc) ∧ acc.length < sizeLine ∧ (xs.length - (i + 1) = xs.length - (i + 1) ∧ i + 1 ≤ xs.length ∧ ∃ (ι' : List Addr) (G' : Hp) (μ' : Store), Grow (ι ++ [p]) ι' G G' ∧ RelH q.T ι' G' μ' (upd H4 p (.lst (acc ++ [y]))) ∧
              CtU q.T σ ι' G' (lcL (evE q.P q.call c) (evE q.P q.call e) tg (stayB μ1 k ds xs) n0 (xs.drop (i + 1)) env0 μ') (fun _ H => Qd H)) else (xs.length - (i + 1) = xs.length - (i + 1) ∧ i + 1 ≤ xs.length ∧ ∃ (ι' : List Addr) (G' : Hp) (μ' : Store), Grow (ι ++ [p]) ι' G G' ∧ RelH q.T ι' G' μ' H3 ∧
              CtU q.T σ ι' G' (lcL (evE q.P q.call c) (evE q.P q.call e) tg (stayB μ1 k ds xs) n0 (xs.drop (i + 1)) env0 μ') (fun _ H => Qd H)) := by
          intro b μ2 ι2 G3 H3 g3 R3 c3
          cases b with
          | false => exact ⟨rfl, hlt, ι2, G3, μ2, g.trans (g2.trans g3), R3, c3⟩
          | true =>
            refine ⟨env', μ2, ι2, G3, R3, S'.mono g3, ?_⟩
            simp only at c3
            cases ee : evE q.P q.call e env' μ2 with
            | bad => rw [ee] at c3; exact c3.elim
            | ex y μ3 => rw [ee] at c3; exact c3.elim
            | ok d2 μ3 =>
              rw [ee] at c3
              simp only at c3
              intro y ι4 G4 H4 g4 R4 ry
              cases hcell : μ3[n0]? with
              | none => simp only [bmS, hcell] at c3; exact c3.elim
              | some cl => cases cl with
                | lst ys =>
                  simp only [bmS, hcell] at c3
                  have hp4 : ι4[n0]? = some p := g4.ix _ _ (g3.ix _ _ (g2.ix _ _ (g.ix _ _ hpi)))
                  split at c3
                  · rename_i hz
                    split at hz
                    · rename_i hsz
                      cases hz
                      cases R4.cel n0 p _ hp4 hcell with
                      | lst h1 h2 h3 =>
                        refine ⟨_, h2, ?_, rfl, hlt, ι4, G4, _, g.trans (g2.trans (g3.trans g4)), R4.write hp4 hcell rfl (.lst h1 upd_same (h3.append (.cons ry .nil))), GCt.grow c3 g4⟩
                        have := flip_len hsz
                        rw [h3.length]
                        omega
                    · cases hz
                  · exact c3.elim
                | _ => simp only [bmS, hcell] at c3; exact c3.elim
        cases ifs with
        | nil =>
          have hi' : c = .lit (.bl true) := hi
          subst hi'
          exact next true μ' ι' G2 H' (Grow.refl _ _) R2 cc
        | cons f fs =>
          show tT q W0 c σ' H' _
          refine ⟨env', μ', ι', G2, R2, S', ?_⟩
          have cc' : CtU q.T σ ι' G2 (match bOf (evE q.P q.call c env' μ') with
              | .ok true μ1' => match evE q.P q.call e env' μ1' with
                | .ok d μ2 => match bmS μ2 .append (.cell n0) [d] with
                  | .ok _ μ3 => lcL (evE q.P q.call c) (evE q.P q.call e) tg (stayB μ1 k ds xs) n0 (xs.drop (i + 1)) env0 μ3
                  | _ => .bad
                | _ => .bad
              | .ok false μ1' => lcL (evE q.P q.call c) (evE q.P q.call e) tg (stayB μ1 k ds xs) n0 (xs.drop (i + 1)) env0 μ1'
              | _ => .bad) (fun _ H => Qd H) := cc
          cases hb : bOf (evE q.P q.call c env' μ') with
          | bad => rw [hb] at cc'; exact cc'.elim
          | ex y μ2 => rw [hb] at cc'; exact cc'.elim
          | ok b μ2 =>
            rw [hb] at cc'
            intro b' ι2 G3 H3 g3 R3 hb'
            have hb' : b' = b := hb'
            subst hb'
            exact next b' μ2 ι2 G3 H3 g3 R3 (GCt.grow cc' g3)
    · exact cc.elim
  · have e : i = xs.length := by omega
    subst e
    rw [List.drop_length] at cc
    unfold lcL at cc
    split at cc
    · rename_i hst
      unfold stayB at hst
      rw [Bool.and_eq_true, decide_eq_true_eq, beq_iff_eq] at hst
      exact .inl ⟨hJ.stop gJ R' hst.1 hst.2 (Nat.le_refl _), cc () ι' G' H (Grow.refl _ _) R' trivial⟩
    · exact cc.elim
/-! ### a way read while a dict is locked -/
section
variable {μ : Store} {w : Nat × Bool × List (D × D)} (hw : μ[w.1]? = some (.dic w.2.1 w.2.2))
include hw
theorem lk_get {j : Nat} : (lockC w μ)[j]? = μ[j]? ∨ (j = w.1 ∧ (lockC w μ)[j]? = some (.ldic w.2.1 w.2.2)) := by
  unfold lockC
  by_cases h : w.1 = j
  · subst h
    exact .inr ⟨rfl, List.getElem?_set_self (List.getElem?_eq_some_iff.mp hw).1⟩
  · exact .inl (List.getElem?_set_ne h)
theorem lk_lst (d : D) : lstOf (lockC w μ) d = lstOf μ d := by
  cases d with
  | cell j =>
    unfold lstOf
    rcases lk_get hw (j := j) with h | ⟨rfl, h⟩
    · simp only [h]
    · simp only [h, hw]
  | _ => rfl
theorem lk_dic (d : D) : dicOf (lockC w μ) d = dicOf μ d := by
  cases d with
  | cell j =>
    unfold dicOf
    rcases lk_get hw (j := j) with h | ⟨rfl, h⟩
    · simp only [h]
    · simp only [h, hw]
  | _ => rfl
theorem lk_ins (d : D) : insOf (lockC w μ) d = insOf μ d := by
  cases d with
  | cell j =>
    unfold insOf
    rcases lk_get hw (j := j) with h | ⟨rfl, h⟩
    · simp only [h]
    · simp only [h, hw]
  | _ => rfl
theorem lk_seq (d : D) : seqOf (lockC w μ) d = seqOf μ d := by
  cases d with
  | cell j => exact lk_lst hw (.cell j)
  | _ => rfl
theorem lk_ofO {α : Type} {o : Option α} {d : α} {μ1 : Store} (h : (ofO o μ : Res Exn α) = .ok d μ1) : μ1 = μ ∧ (ofO o (lockC w μ) : Res Exn α) = .ok d (lockC w μ) := by
  cases o with
  | none => cases h
  | some a => cases h; exact ⟨rfl, rfl⟩
theorem lk_fld {fok : List (List Nat)} {o : Option (Nat × List (Nat × D))} {f : Nat} {d : D} {μ1 : Store} (h : fldS fok μ o f = .ok d μ1) : μ1 = μ ∧ fldS fok (lockC w μ) o f = .ok d (lockC w μ) := by
  cases o with
  | none => cases h
  | some p =>
    obtain ⟨c, fs⟩ := p
    unfold fldS at h ⊢
    simp only at h ⊢
    split at h
    · rename_i hf
      rw [if_pos hf]
      exact lk_ofO hw h
    · cases h
theorem lk_ix {d e r : D} {μ1 : Store} (h : ixS μ d e = .ok r μ1) : μ1 = μ ∧ ixS (lockC w μ) d e = .ok r (lockC w μ) := by
  unfold ixS at h ⊢
  rw [lk_dic hw]
  cases hd : dicOf μ d with
  | some p =>
    rw [hd] at h
    simp only at h ⊢
    split at h
    · rename_i hk
      rw [if_pos hk]
      exact lk_ofO hw h
    · cases h
  | none =>
    rw [hd] at h
    cases e with
    | int i =>
      cases d with
      | str z =>
        simp only at h ⊢
        split at h
        · rename_i hk
          rw [if_pos hk]
          exact lk_ofO hw h
        · cases h
      | _ =>
        simp only [lk_seq hw] at h ⊢
        split at h
        · exact lk_ofO hw h
        · cases h
    | _ => cases h
theorem path_lock {P : Prog} {call : Nat → List D → Store → RD} {env : Env} : ∀ {c : CE}, pathE c = true → (∀ d μ1, evE P call c env μ = .ok d μ1 → μ1 = μ ∧ evE P call c env (lockC w μ) = .ok d (lockC w μ)) ∧ (∀ d μ1, evA P call c env μ = .ok d μ1 → μ1 = μ ∧ evA P call c env (lockC w μ) = .ok d (lockC w μ)) := by
  intro c
  induction c with
  | lit d => exact fun _ => ⟨fun d μ1 h => by cases h; exact ⟨rfl, rfl⟩, fun d μ1 h => by cases h⟩
  | var i => exact fun _ => ⟨fun d μ1 h => lk_ofO hw (o := getV env i) h, fun d μ1 h => by cases h⟩
  | glo i => exact fun _ => ⟨fun d μ1 h => lk_ofO hw (o := P.consts[i]?) h, fun d μ1 h => by cases h⟩
  | fld o f ih =>
    refine fun hp => ⟨fun d μ1 h => ?_, fun d μ1 h => by cases h⟩
    have hp : pathE o = true := hp
    have h : ((evE P call o env μ).bind fun d μ => fldS P.fok μ (insOf μ d) f) = .ok d μ1 := h
    show μ1 = μ ∧ ((evE P call o env (lockC w μ)).bind fun d μ => fldS P.fok μ (insOf μ d) f) = _
    cases e : evE P call o env μ with
    | bad => rw [e] at h; cases h
    | ex y m => rw [e] at h; cases h
    | ok d1 m =>
      obtain ⟨rfl, e2⟩ := (ih hp).1 _ _ e
      rw [e, Res.bind_ok] at h
      rw [e2, Res.bind_ok, lk_ins hw]
      exact lk_fld hw h
  | ix o i ih1 ih2 =>
    refine fun hp => ⟨fun d μ1 h => ?_, fun d μ1 h => by cases h⟩
    have hp : (pathE o && pathE i) = true := hp
    rw [Bool.and_eq_true] at hp
    have h : ((evE P call o env μ).bind fun d μ => (evE P call i env μ).bind fun e μ => ixS μ d e) = .ok d μ1 := h
    show μ1 = μ ∧ ((evE P call o env (lockC w μ)).bind fun d μ => (evE P call i env μ).bind fun e μ => ixS μ d e) = _
    cases e : evE P call o env μ with
    | bad => rw [e] at h; cases h
    | ex y m => rw [e] at h; cases h
    | ok d1 m =>
      obtain ⟨rfl, e2⟩ := (ih1 hp.1).1 _ _ e
      rw [e, Res.bind_ok] at h
      rw [e2, Res.bind_ok]
      cases e3 : evE P call i env m with
      | bad => rw [e3] at h; cases h
      | ex y m => rw [e3] at h; cases h
      | ok d2 m2 =>
        obtain ⟨rfl, e4⟩ := (ih2 hp.2).1 _ _ e3
        rw [e3, Res.bind_ok] at h
        rw [e4, Res.bind_ok]
        exact lk_ix hw h
  | anil => exact fun _ => ⟨fun d μ1 h => (by cases h), fun d μ1 h => by cases h; exact ⟨rfl, rfl⟩⟩
  | acons a r ih1 ih2 =>
    refine fun hp => ⟨fun d μ1 h => (by cases h), fun d μ1 h => ?_⟩
    have hp : (pathE a && pathE r) = true := hp
    rw [Bool.and_eq_true] at hp
    have h : ((evE P call a env μ).bind fun d μ => (evA P call r env μ).bind fun ds μ => .ok (d :: ds) μ) = .ok d μ1 := h
    show μ1 = μ ∧ ((evE P call a env (lockC w μ)).bind fun d μ => (evA P call r env μ).bind fun ds μ => .ok (d :: ds) μ) = _
    cases e : evE P call a env μ with
    | bad => rw [e] at h; cases h
    | ex y m => rw [e] at h; cases h
    | ok d1 m =>
      obtain ⟨rfl, e2⟩ := (ih1 hp.1).1 _ _ e
      rw [e, Res.bind_ok] at h
      rw [e2, Res.bind_ok]
      cases e3 : evA P call r env m with
      | bad => rw [e3] at h; cases h
      | ex y m => rw [e3] at h; cases h
      | ok d2 m2 =>
        obtain ⟨rfl, e4⟩ := (ih2 hp.2).2 _ _ e3
        rw [e3, Res.bind_ok] at h
        rw [e4, Res.bind_ok]
        cases h
        exact ⟨rfl, rfl⟩
  | _ => exact fun hp => by cases hp
end
theorem ofO_same {α : Type} {o : Option α} {d : α} {μ μ1 : Store} (h : (ofO o μ : Res Exn α) = .ok d μ1) : μ1 = μ := by
  cases o with
  | none => cases h
  | some a => cases h; rfl
theorem ix_same {d e r : D} {μ μ1 : Store} (h : ixS μ d e = .ok r μ1) : μ1 = μ := by
  unfold ixS at h
  split at h
  · split at h
    · exact ofO_same h
    · cases h
  · split at h
    · split at h
      · split at h
        · exact ofO_same h
        · cases h
      · split at h
        · exact ofO_same h
        · cases h
    · cases h
theorem path_same {P : Prog} {call : Nat → List D → Store → RD} {env : Env} : ∀ {c : CE}, pathE c = true → ∀ {μ : Store}, (∀ d μ1, evE P call c env μ = .ok d μ1 → μ1 = μ) ∧ (∀ d μ1, evA P call c env μ = .ok d μ1 → μ1 = μ) := by
  intro c
  induction c with
  | lit d => exact fun _ μ => ⟨fun d μ1 h => (by cases h; rfl), fun d μ1 h => (by cases h)⟩
  | var i => exact fun _ μ => ⟨fun d μ1 h => ofO_same (o := getV env i) h, fun d μ1 h => (by cases h)⟩
  | glo i => exact fun _ μ => ⟨fun d μ1 h => ofO_same (o := P.consts[i]?) h, fun d μ1 h => (by cases h)⟩
  | fld o f ih =>
    refine fun hp μ => ⟨fun d μ1 h => ?_, fun d μ1 h => (by cases h)⟩
    have hp : pathE o = true := hp
    have h : ((evE P call o env μ).bind fun d μ => fldS P.fok μ (insOf μ d) f) = .ok d μ1 := h
    cases e : evE P call o env μ with
    | bad => rw [e] at h; cases h
    | ex y m => rw [e] at h; cases h
    | ok d1 m =>
      obtain rfl := (ih hp).1 _ _ e
      rw [e, Res.bind_ok] at h
      unfold fldS at h
      split at h
      · split at h
        · exact ofO_same h
        · cases h
      · cases h
  | ix o i ih1 ih2 =>
    refine fun hp μ => ⟨fun d μ1 h => ?_, fun d μ1 h => (by cases h)⟩
    have hp : (pathE o && pathE i) = true := hp
    rw [Bool.and_eq_true] at hp
    have h : ((evE P call o env μ).bind fun d μ => (evE P call i env μ).bind fun e μ => ixS μ d e) = .ok d μ1 := h
    cases e : evE P call o env μ with
    | bad => rw [e] at h; cases h
    | ex y m => rw [e] at h; cases h
    | ok d1 m =>
      obtain rfl := (ih1 hp.1).1 _ _ e
      rw [e, Res.bind_ok] at h
      cases e3 : evE P call i env m with
      | bad => rw [e3] at h; cases h
      | ex y m => rw [e3] at h; cases h
      | ok d2 m2 =>
        obtain rfl := (ih2 hp.2).1 _ _ e3
        rw [e3, Res.bind_ok] at h
        exact ix_same h
  | anil => exact fun _ μ => ⟨fun d μ1 h => (by cases h), fun d μ1 h => (by cases h; rfl)⟩
  | acons a r ih1 ih2 =>
    refine fun hp μ => ⟨fun d μ1 h => (by cases h), fun d μ1 h => ?_⟩
    have hp : (pathE a && pathE r) = true := hp
    rw [Bool.and_eq_true] at hp
    have h : ((evE P call a env μ).bind fun d μ => (evA P call r env μ).bind fun ds μ => .ok (d :: ds) μ) = .ok d μ1 := h
    cases e : evE P call a env μ with
    | bad => rw [e] at h; cases h
    | ex y m => rw [e] at h; cases h
    | ok d1 m =>
      obtain rfl := (ih1 hp.1).1 _ _ e
      rw [e, Res.bind_ok] at h
      cases e3 : evA P call r env m with
      | bad => rw [e3] at h; cases h
      | ex y m => rw [e3] at h; cases h
      | ok d2 m2 =>
        obtain rfl := (ih2 hp.2).2 _ _ e3
        rw [e3, Res.bind_ok] at h
        cases h
        rfl
  | _ => exact fun hp => by cases hp
theorem walked_at {μ : Store} {k : ITK} {ds : List D} {w : Nat × Bool × List (D × D)} (h : walkedC μ k ds = some w) : ds = [.cell w.1] ∧ μ[w.1]? = some (.dic w.2.1 w.2.2) := by
  unfold walkedC at h
  split at h
  · split at h
    · cases h; exact ⟨rfl, by assumption⟩
    · cases h
  · split at h
    · cases h; exact ⟨rfl, by assumption⟩
    · cases h
  · cases h
theorem walked_lock {μ : Store} {k : ITK} {ds : List D} {w : Nat × Bool × List (D × D)} (h : walkedC μ k ds = some w) : walkedC (lockC w μ) k ds = none := by
  obtain ⟨rfl, hw⟩ := walked_at h
  have e : (lockC w μ)[w.1]? = some (.ldic w.2.1 w.2.2) := List.getElem?_set_self (List.getElem?_eq_some_iff.mp hw).1
  cases k <;> simp [walkedC, e]
/-- the comprehension in its rule's words -/
theorem lc_core' {k : ITK} {it c e : CE} {tg : TGT} {ifs : List Expr} {own : List Nat} {fz : Bool} {env : Env} {μ : Store} {σ : L2.St} {ι : List Addr} {G H : Hp} {Q : VK} (R : RelH q.T ι G μ H) (S : RelS q.T ι G env σ) (hi : ifB ifs c) (hg : tgIn own tg = true)
    (hc : match evA q.P q.call it env μ with
      | .ok ds μ1 => walkedC μ1 k ds = none ∧ Ct q.T W σ ι G (lcS (evE q.P q.call c) (evE q.P q.call e) tg own k ds fz env μ1) Q
      | .ex y μ1 => Ct q.T W σ ι G (.ex y μ1) Q
      | .bad => False) : tLc (tI q W k it) (tG q.T tg) (tIf q ifs c) (tE q W0 e) own σ H Q := by
  refine ⟨env, μ, ι, G, R, S, ?_⟩
  cases ea : evA q.P q.call it env μ with
  | bad => rw [ea] at hc; exact hc
  | ex y μ1 => rw [ea] at hc; exact hc
  | ok ds μ1 =>
    rw [ea] at hc
    obtain ⟨hw, hc⟩ := hc
    unfold lcS at hc
    cases hx : itemsOf μ1 k ds with
    | none => rw [hx] at hc; exact hc.elim
    | some xs =>
      rw [hx] at hc
      simp only at hc
      refine ⟨xs, hx, hw, fun ι1 G1 H1 J g1 R1 hJ p hp => ?_⟩
      have hpi : (ι1 ++ [p])[μ1.length]? = some p := by rw [← R1.len]; simp
      have gcell := Grow.cell ι1 G1 p
      refine lc_turns (Qd := Q (.ref p)) R1 ((S.mono g1).wipe2 own) hx hJ hp hi hg rfl ?_
      cases hl : lcL (evE q.P q.call c) (evE q.P q.call e) tg (stayB μ1 k ds xs) μ1.length xs (wipeE env own) (μ1 ++ [.lst []]) with
      | bad => rw [hl] at hc; exact hc
      | ex y μ2 => rw [hl] at hc; exact hc.elim
      | ok u μ2 =>
        rw [hl] at hc
        simp only at hc
        intro _ ι2 G2 H2 g2 R2 _
        have hp2 : ι2[μ1.length]? = some p := g2.ix _ _ hpi
        have gg := g1.trans (gcell.trans g2)
        cases fz with
        | false => exact hc (.ref p) ι2 G2 H2 gg R2 (.cell hp2)
        | true =>
          simp only [if_true] at hc
          cases ht : thaw μ1.length μ2 with
          | none => rw [ht] at hc; exact hc.elim
          | some z =>
            obtain ⟨d2, μ3⟩ := z
            rw [ht] at hc
            simp only at hc
            obtain ⟨G3, g3, R3, r3⟩ := R2.thaw ht
            have hc' := leave_ct R1 (GCt.grow hc g1)
            exact hc' (.ref p) ι2 G3 H2 ((gcell.trans g2).trans g3) R3 (r3 _ hp2)
/-- a comprehension: with no lock, or within one -/
theorem lc_dyn {k : ITK} {it c e : CE} {tg : TGT} {ifs : List Expr} {own : List Nat} {fz : Bool} {env : Env} {μ : Store} {σ : L2.St} {ι : List Addr} {G H : Hp} {Q : VK} (R : RelH q.T ι G μ H) (S : RelS q.T ι G env σ) (hi : ifB ifs c) (hg : tgIn own tg = true)
    (hc : Ct q.T W σ ι G (evE q.P q.call (.lc fz k it tg c e own) env μ) Q) :
    tLc (tI q W k it) (tG q.T tg) (tIf q ifs c) (tE q W0 e) own σ H Q ∨ tLockE (tLc (tI q W k it) (tG q.T tg) (tIf q ifs c) (tE q W0 e) own) σ H Q := by
  have c' : Ct q.T W σ ι G ((evA q.P q.call it env μ).bind fun ds μ => match walkedC μ k ds with
    | none => lcS (evE q.P q.call c) (evE q.P q.call e) tg own k ds fz env μ
    | some w => if pathE it then unlkE w (lcS (evE q.P q.call c) (evE q.P q.call e) tg own k ds fz env (lockC w μ)) else .bad) Q := hc
  cases ea : evA q.P q.call it env μ with
  | bad => rw [ea] at c'; exact c'.elim
  | ex y μ1 =>
    rw [ea] at c'
    exact .inl (lc_core' (fz := fz) R S hi hg (by rw [ea]; exact c'))
  | ok ds μ1 =>
    rw [ea, Res.bind_ok] at c'
    cases hw : walkedC μ1 k ds with
    | none =>
      rw [hw] at c'
      exact .inl (lc_core' (fz := fz) R S hi hg (by rw [ea]; exact ⟨hw, c'⟩))
    | some w =>
      rw [hw] at c'
      simp only at c'
      split at c'
      · rename_i hp
        obtain ⟨rfl, hd⟩ := walked_at hw
        obtain rfl := (path_same hp).2 _ _ ea
        have hl := ((path_lock hd hp).2 _ _ ea).2
        obtain ⟨a, ha⟩ := R.addr hd
        obtain ⟨u, hu, mu, hn, lk⟩ := R.lock hd ha
        refine .inr ⟨a, u, hu, mu, fun od => ?_⟩
        obtain ⟨gl, Rl⟩ := lk od
        refine lc_core' (fz := fz) Rl (S.mono gl) hi hg ?_
        have hl' : evA q.P q.call it env (lockC w μ1) = .ok [.cell w.1] (lockC w μ1) := hl
        have : (μ1.set w.1 (.ldic w.2.1 w.2.2)) = lockC w μ1 := rfl
        rw [this, hl']
        refine ⟨walked_lock hw, ?_⟩
        cases hr : lcS (evE q.P q.call c) (evE q.P q.call e) tg own k [.cell w.1] fz env (lockC w μ1) with
        | bad => rw [hr] at c'; exact c'
        | ex y μ2 => rw [hr] at c'; exact c'.elim
        | ok d μ2 =>
          rw [hr] at c'
          intro v ι2 G2 H2 g2 R2 rv
          obtain ⟨h1, h2, h3⟩ := R.unlock hd ha hu g2 R2
          exact ⟨h1, c' v ι2 _ _ h2 h3 (rv.outk (g2.ex _ _ upd_same))⟩
      · exact c'.elim
end Co

set_option linter.all false
set_option maxRecDepth 100000
set_option Elab.async false
/-! Co19: comprehensions as expressions; what every expression is. -/
namespace Co
open PySem L2
variable {q : Cq} {sc : Scope} {N : List Str} {W : WX} {X : Cx}
theorem pts_if {X' : Cx} {ifs : List Expr} {c : CE} (hi : ifB ifs c) (h : ∀ e ∈ ifs, PT X' e (tT q W0 c)) : PTs X' ifs (tIf q ifs c) := by
  cases ifs with
  | nil => exact pts_nil
  | cons e r => cases r with
    | nil => exact pts_one (h e List.mem_cons_self)
    | cons _ _ => exact hi.elim
/-- what a comprehension's parts are -/
structure LcOk (q : Cq) (sc : Scope) (N : List Str) (W : WX) (X : Cx) (k : ITK) (it : CE) (tg : TGT) (c e : CE) (elt tge iter : Expr) (ifs : List Expr) (scope : Scope) (own : List (Str × Nat)) : Prop where
  hi : ifB ifs c
  hg : tgIn (own.map (·.2)) tg = true
  hb : blkC N sc scope own = true
  it : PI X tge iter (tI q W k it)
  pl : plE iter = true
  hG : okG N (relS scope sc) false tg tge = true
  hT : ∀ X', XOk q (relS scope sc) N W0 X' → ∀ f ∈ ifs, PT X' f (tT q W0 c)
  hE : ∀ X', XOk q (relS scope sc) N W0 X' → PE X' elt (tE q W0 e)
theorem LcOk.pe (x : XOk q sc N W X) {k : ITK} {it c e : CE} {tg : TGT} {elt tge iter : Expr} {ifs : List Expr} {scope : Scope} {own : List (Str × Nat)} {pos : Pos} (l : LcOk q sc N W X k it tg c e elt tge iter ifs scope own) :
    PE X (.ListComp elt [⟨tge, iter, ifs, 0⟩] scope pos) (tLc (tI q W k it) (tG q.T tg) (tIf q ifs c) (tE q W0 e) (own.map (·.2))) :=
  pe_lc x.calm (by rw [x.eN]; exact x.nd) l.it (by rw [x.eN, x.eS]; exact blkOk_by l.hb) (fun s H C cl fp => pg_ok (x.blkG s H scope C cl fp) l.hG) (fun s H C cl fp => pts_if l.hi fun f hf => l.hT _ (x.blk s H scope C cl fp) f hf) (fun s H C cl fp => l.hE _ (x.blk s H scope C cl fp)) (pl_fold l.pl X.env)
theorem se_lc (x : XOk q sc N W X) {k : ITK} {fz : Bool} {it c e : CE} {tg : TGT} {elt tge iter : Expr} {ifs : List Expr} {scope : Scope} {own : List (Str × Nat)} {pos : Pos} (l : LcOk q sc N W X k it tg c e elt tge iter ifs scope own) :
    PE X (.ListComp elt [⟨tge, iter, ifs, 0⟩] scope pos) (tE q W (.lc fz k it tg c e (own.map (·.2)))) :=
  PE.dyn fun σ H Q ⟨env, μ, ι, G, R, S, hc⟩ => by
    rcases lc_dyn R S l.hi l.hg hc with h | h
    · exact ⟨_, l.pe x, h⟩
    · exact ⟨_, pe_lock (l.pe x), h⟩
theorem st_setLc (x : XOk q sc N W X) {k : ITK} {fz : Bool} {it c e : CE} {tg : TGT} {elt tge iter : Expr} {ifs : List Expr} {scope : Scope} {own : List (Str × Nat)} {pos py spos : Pos} {i : Nat} {y : Str} (l : LcOk q sc N W X k it tg c e elt tge iter ifs scope own)
    (hN : N[i]? = some y) (hy : sc.names.lookup y = some .local) (hsw : swapsWith (.ListComp elt [⟨tge, iter, ifs, 0⟩] scope pos) (some (.Name y py)) spos.line X.env = pure true) :
    PS X (.Assign [.Name y py] (.ListComp elt [⟨tge, iter, ifs, 0⟩] scope pos) spos) (tAsg (tLc (tI q W k it) (tG q.T tg) (tIf q ifs c) (tE q W0 e) (own.map (·.2))) (gName i)) :=
  ps_setLc x.calm (by rw [x.eN]; exact x.nd) (by rw [x.eN]; exact hN) (by rw [x.eS]; exact hy) hsw l.it (by rw [x.eN, x.eS]; exact blkOk_by l.hb) (fun s H C cl fp => pg_ok (x.blkG s H scope C cl fp) l.hG) (fun s H C cl fp => pts_if l.hi fun f hf => l.hT _ (x.blk s H scope C cl fp) f hf) (fun s H C cl fp => l.hE _ (x.blk s H scope C cl fp)) (pl_fold l.pl X.env)
end Co

set_option linter.all false
set_option maxRecDepth 100000
set_option Elab.async false
/-! Co20: what is checked of an expression; every expression that passes is told by the evaluator. -/
namespace Co
open PySem L2
variable {q : Cq} {sc : Scope} {N : List Str} {W : WX} {X : Cx}
theorem se_call (x : XOk q sc N W X) {f : Nat} {as : CE} {dv : List D} {es : List Expr} {y : Str} {p pos : Pos} (hg : glB sc y = true) (hdb : dbgB y = false) (hl : q.tx.fnm.lookup y = some f) (hd : dflB q f dv = true) (A : Args X q W as es) :
    PE X (.Call (.Name y p) es [] pos) (tE q W (.call f as dv)) :=
  ⟨fun pins s σ H Q I ⟨env, μ, ι, G, R, S, c⟩ => call_args x hg hdb A.pl A.nl' A.pa (by rw [x.eK]; exact x.lk.kp y f hl) (x.lk.fn y f hl) (fun pins σ H s Q us vs ds ι G μ I r R rl c => run_fnW x hd I r R rl c) I R S (F := fun ds μ => q.call f (ds ++ dv) μ) c⟩
theorem se_make (x : XOk q sc N W X) {cl : Nat} {fz : Bool} {as : CE} {dv : List D} {es : List Expr} {y : Str} {p pos : Pos} (hg : glB sc y = true) (hdb : dbgB y = false) (hl : q.tx.cnm.lookup y = some cl) (hd : ∀ f, q.P.init.getD cl none = some f → dflB q f dv = true) (A : Args X q W as es) :
    PE X (.Call (.Name y p) es [] pos) (tE q W (.make cl fz as dv)) :=
  ⟨fun pins s σ H Q I ⟨env, μ, ι, G, R, S, c⟩ => call_args x hg hdb A.pl A.nl' A.pa (by rw [x.eK]; exact x.lk.kpc y cl hl) (x.lk.cls y cl hl) (fun pins σ H s Q us vs ds ι G μ I r R rl c => run_makeW x hd I r R rl c) I R S (F := fun ds μ => makeS q.P q.call cl fz (ds ++ dv) μ) c⟩
theorem se_sup (x : XOk q sc N W X) {c f : Nat} {as : CE} {es : List Expr} {y : Str} {p apos pos : Pos} (hg : glB sc y = true) (hdb : dbgB y = false) (hl : q.tx.cnm.lookup y = some c) (hi : q.P.init.getD c none = some f) (A : Args X q W as es) (ne : es ≠ []) (hf : es.length < 30) (hline : (apos.endLine == pos.line) = true) :
    PE X (.Call (.Attribute (.Name y p) "__init__" apos) es [] pos) (tE q W (.sup f as)) := by
  refine ⟨fun pins s σ H Q I ⟨env, μ, ι, G, R, S, cc⟩ => ?_⟩
  have c' : Ct q.T W σ ι G ((evA q.P q.call as env μ).bind fun ds μ => q.call f ds μ) Q := cc
  obtain ⟨r1, r2, r3, r4⟩ := x.lk.rdi c f hi
  have hn : PE X (.Name y p) (fun σ H Q => Q (.ref (q.T.cA c)) H) := pe_glob (x.gl hg) (x.lk.cls y c hl) rfl (dbg1 hdb)
  refine PySem.W.methodCall_KW (thn (hn.run pins s σ H (fun v H' => v = .ref (q.T.cA c) ∧ H' = H) I ⟨rfl, rfl⟩) fun u s1 ⟨v, H1, I1, rx, ev, eh⟩ => ?_) (meth_eval rfl A.pl hf hline)
  subst ev
  subst eh
  obtain rfl : u = Value.ref (q.T.cA c) := rx
  have rd : ClX.CRead X.K (q.T.cA c) (.type "type") := by rw [x.eK]; exact ⟨r1, r2⟩
  have cv : ClX.CVal X.K (q.T.cA c) (.type "type") "__init__" (.ref (q.fA f)) (.ref (q.fA f)) := by rw [x.eK]; exact ⟨r3, rfl⟩
  refine PySem.W.method_cls I1.kIn rd.ga (ClX.getcval_ok I1 rd cv fun s2 I2 => ?_)
  have hA : tA q W as σ H1 (fun vs H' => ∃ (ι' : List Addr) (G' : Hp) (μ' : Store) (ds : List D), RelH q.T ι' G' μ' H' ∧ RepL q.T ι' G' vs ds ∧ Ct q.T W σ ι' G' (q.call f ds μ') Q) :=
    ⟨env, μ, ι, G, R, S, GCt.bind c' fun ds μ1 vs ι1 G1 H1 _ g r d c1 => ⟨ι1, G1, μ1, ds, r, d, c1⟩⟩
  have hp := A.pl
  cases es with
  | nil => exact absurd rfl ne
  | cons e es =>
    rw [List.all_cons, Bool.and_eq_true] at hp
    refine PySem.W.callWith_K (first := []) (h₀ := X.base) I.ok.mod.kin (by rw [x.eK]; exact r4) (thn (A.pa.run pos pins s2 σ H1 _ I2 hA) fun us s3 ⟨vs, H2, I3, r, ι2, G2, μ2, ds, R2, rl, c2⟩ => ⟨I3.kIn, ?_⟩) (pl_star hp.1 es _) (pl_any hp.2)
    exact run_fnW (dv := []) x (by unfold dflB; simp) I3 r R2 rl (by rw [List.append_nil]; exact c2)
/-! ### (not) in range(n) -/
theorem in_rng {prog : Program} {w : World} {A : Around} {E : Value → Shared → Prop} {s : Shared} {r : Addr} {a b i : Int} {t u v k : Tok} {Q : Value → Shared → Prop} (hr : IsRange s.heap r a b 1 t u v) (neg : Bool) (h : Q (.bool (if neg then !decide (a ≤ i ∧ i < b) else decide (a ≤ i ∧ i < b))) s) :
    wpAny (model prog w) A (compareOp (if neg then .NotIn else .In) (.int i k) (.ref r)) Q E s := by
  have hT : s.TypeIs (.ref r) "range" := ⟨_, hr, rfl⟩
  have core : ∀ Q' : Value → Shared → Prop, Q' (.bool (decide (a ≤ i ∧ i < b))) s → wpAny (model prog w) A (call (.builtin "range.__contains__") [.ref r, .int i k]) Q' E s := fun Q' hq => by
    refine wpAny_call_entry F.slot_range_contains hT F.entry_range_contains ?_ (F.args_range_contains_2 _ _)
    unfold Builtin.«range.__contains__»
    refine wpAny_bind (wpAny_of_eq (a := (Value.ref r, [Value.int i k])) rfl ?_)
    dsimp only [Builtin.Range.rangeExactInt?]
    refine wpAny_bind (wpAny_rule ?_)
    refine wpAny_bind (wpAny_rangeFields hr ?_)
    have e : (Builtin.Range.rangePlace? a b 1 i).isSome = decide (a ≤ i ∧ i < b) := by
      unfold Builtin.Range.rangePlace?
      simp only [show (1 : Int) > 0 from by decide, if_true, Int.emod_one, beq_self_eq_true, Bool.and_true]
      by_cases h1 : a ≤ i <;> by_cases h2 : i < b <;> simp [h1, h2]
    dsimp only
    rw [e]
    exact wpAny_pure ⟨_, rfl, hq⟩
  cases neg with
  | false =>
    show wpAny _ _ (do return .bool (← contains (.ref r) (.int i k))) Q E s
    exact wpAny_bind (wpAny_contains_slot hT F.slot_range_contains (core _ (wpAny_pure (wpAny_pure h))))
  | true =>
    show wpAny _ _ (do return .bool (!(← contains (.ref r) (.int i k)))) Q E s
    exact wpAny_bind (wpAny_contains_slot hT F.slot_range_contains (core _ (wpAny_pure (wpAny_pure h))))
theorem pc_rng {neg : Bool} {a e : Expr} {ta : TE} {tr : L2.St → Hp → (Int → Int → Hp → Prop) → Prop} (ha : PE X a ta) (he : PRg X e tr) : PC X (if neg then .NotIn else .In) a e (fun σ H Q => ta σ H fun x H1 => tr σ H1 fun lo hi H2 => ∃ i, x = .int i ∧ Q (.bl (if neg then !decide (lo ≤ i ∧ i < hi) else decide (lo ≤ i ∧ i < hi))) H2) := by
  refine ⟨fun pins s σ H Q I h => ?_⟩
  refine thn (ha.run pins s σ H _ I h) fun iv s1 ⟨x, H1, I1, rx, q1⟩ => thn (he pins s1 σ H1 _ I1 q1) fun u s2 ⟨r, lo, hi, t1, t2, t3, H2, eu, hr, I2, i, ex, q2⟩ => ?_
  subst ex
  subst eu
  obtain ⟨t, rfl⟩ := rx
  exact in_rng hr neg ⟨.bl _, H2, I2, rfl, q2⟩
theorem inr_core {neg : Bool} {a n : CE} {σ : L2.St} {H : Hp} {Q : VK} {env : Env} {μ : Store} {ι : List Addr} {G : Hp} (R : RelH q.T ι G μ H) (S : RelS q.T ι G env σ) (c : Ct q.T W σ ι G (evE q.P q.call (.inr neg a n) env μ) Q) :
    tE q W a σ H fun x H1 => tRg1 (tE q W n) σ H1 fun lo hi H2 => ∃ i, x = .int i ∧ Q (.bl (if neg then !decide (lo ≤ i ∧ i < hi) else decide (lo ≤ i ∧ i < hi))) H2 := by
  have c' : Ct q.T W σ ι G ((evE q.P q.call a env μ).bind fun d μ => (evE q.P q.call n env μ).bind fun e μ => inrS neg d e μ) Q := c
  refine ⟨env, μ, ι, G, R, S, GCt.bind c' fun d μ1 v ι1 G1 H1 _ g r rv c1 => ⟨env, μ1, ι1, G1, r, S.mono g, GCt.bind c1 fun e μ2 y ι2 G2 H2 _ g2 r2 ry c2 => ?_⟩⟩
  cases rv with
  | int i => cases ry with
    | int j => exact ⟨j, rfl, i, rfl, ct_val c2 r2 (.bl _)⟩
    | _ => exact c2.elim
  | _ => cases ry <;> exact c2.elim
theorem se_inr {neg : Bool} {a n : CE} {e f : Expr} {p p2 pos : Pos} (x : XOk q sc N W X) (hg : glB sc "range" = true) (ha : PE X e (tE q W a)) (hn : PE X f (tE q W n)) (hp : plE f = true) :
    PE X (.Compare e [if neg then .NotIn else .In] [.Call (.Name "range" p) [f] [] p2] pos) (tE q W (.inr neg a n)) :=
  PE.dyn fun σ H Q ⟨env, μ, ι, G, R, S, c⟩ => ⟨_, pe_cmp (pc_rng ha (prg_1 (x.gl hg) (x.lk.blt "range" (by decide)) hn (pl_star hp [] _))) (by cases neg <;> rfl), inr_core R S c⟩
theorem st_inr {neg : Bool} {a n : CE} {e f : Expr} {p p2 pos : Pos} (x : XOk q sc N W X) (hg : glB sc "range" = true) (ha : PE X e (tE q W a)) (hn : PE X f (tE q W n)) (hp : plE f = true) :
    PT X (.Compare e [if neg then .NotIn else .In] [.Call (.Name "range" p) [f] [] p2] pos) (tT q W (.inr neg a n)) := by
  refine PT.dyn fun σ H Q ⟨env, μ, ι, G, R, S, c⟩ => ⟨_, pt_cmp (pc_rng ha (prg_1 (x.gl hg) (x.lk.blt "range" (by decide)) hn (pl_star hp [] _))) (by cases neg <;> rfl), ?_⟩
  refine inr_core (neg := neg) (a := a) (n := n) (Q := fun v H' => ∃ d, v = .bl d ∧ Q d H') R S ?_
  have e0 : evE q.P q.call (.inr neg a n) env μ = (evE q.P q.call a env μ).bind fun d μ => (evE q.P q.call n env μ).bind fun e μ => inrS neg d e μ := rfl
  rw [e0] at c ⊢
  cases h1 : evE q.P q.call a env μ with
  | bad => rw [h1] at c; exact c
  | ex y μ1 => rw [h1] at c; exact c
  | ok d μ1 =>
    rw [h1] at c
    simp only [Res.bind_ok] at c ⊢
    cases h2 : evE q.P q.call n env μ1 with
    | bad => rw [h2] at c; exact c
    | ex y μ2 => rw [h2] at c; exact c
    | ok e2 μ2 =>
      rw [h2] at c
      simp only [Res.bind_ok] at c ⊢
      unfold inrS at c ⊢
      split
      · intro v ι' G' H' g R' rv
        cases rv
        exact ⟨_, rfl, c _ ι' G' H' g R' rfl⟩
      · rename_i hno
        split at c
        · exact absurd rfl (hno _ _ rfl)
        · exact c
/-! ### the check -/
abbrev KE := Bool → Scope → Expr → Bool
abbrev KA := Scope → List Expr → Bool
section
variable (q : Cq) (N : List Str)
/-- as a test, a thing that has a truth -/
def tst (t : Bool) (e : Expr) : Bool := !t || genT e
def cLit (d : D) : KE := fun t _ e => tst t e && match e with
  | .Constant k _ _ => litB k d
  | _ => false
def cVar (i : Nat) : KE := fun _ sc e => match e with
  | .Name y _ => decide (N[i]? = some y) && visB sc y && !dbgB y
  | _ => false
def cGlo (j : Nat) : KE := fun _ sc e => match e with
  | .Name y _ => glB sc y && decide (q.tx.gnm.lookup y = some j) && !dbgB y
  | _ => false
def cBin (o : BinO) (a b : KE) : KE := fun t sc e => tst t e && match e with
  | .BinOp e op f _ => decide (oBin op = some o) && a false sc e && b false sc f
  | _ => false
def cNeg (a : KE) : KE := fun t sc e => !t && match e with
  | .UnaryOp .USub e _ => a false sc e
  | _ => false
def cCmp (o : CmpO) (a b : KE) : KE := fun _ sc e => match e with
  | .Compare e [op] [f] _ => decide (oCmp op = some o) && a false sc e && b false sc f && plE f
  | _ => false
def ordB (op : CmpOp) (o : CmpO) : Bool := match oOrd op with
  | some p => decide (p.1 = o)
  | none => false
def cChn (o o2 : CmpO) (a b c : KE) : KE := fun _ sc e => match e with
  | .Compare e [op, op2] [f, g] _ => ordB op o && ordB op2 o2 && a false sc e && b false sc f && c false sc g && plE g
  | _ => false
def cAnd (a b : KE) : KE := fun t sc e => match e with
  | .BoolOp .And (e :: f :: r) pos => a t sc e && (match r with
    | [] => b t sc f
    | _ => b t sc (.BoolOp .And (f :: r) pos))
  | _ => false
def cOr (a b : KE) : KE := fun t sc e => match e with
  | .BoolOp .Or (e :: f :: r) pos => a t sc e && (match r with
    | [] => b t sc f
    | _ => b t sc (.BoolOp .Or (f :: r) pos))
  | _ => false
def cNot (a : KE) : KE := fun t sc e => match e with
  | .UnaryOp .Not e _ => a t sc e
  | _ => false
def cIte (c a b : KE) : KE := fun t sc e => !t && match e with
  | .IfExp e f g _ => c true sc e && a false sc f && b false sc g
  | _ => false
def cIsi (a : KE) (ts : List Ty) : KE := fun _ sc e => match e with
  | .Call (.Name y _) [e, e2] [] _ => decide (y = "isinstance") && glB sc "isinstance" && a false sc e && plE e && okIsi q sc ts e2
  | _ => false
def cCall (f : Nat) (as : KA) (dv : List D) : KE := fun _ sc e => match e with
  | .Call (.Name y _) es [] _ => glB sc y && !dbgB y && decide (q.tx.fnm.lookup y = some f) && dflB q f dv && as sc es
  | _ => false
def cMake (c : Nat) (as : KA) (dv : List D) : KE := fun _ sc e => match e with
  | .Call (.Name y _) es [] _ => glB sc y && !dbgB y && decide (q.tx.cnm.lookup y = some c) && (match q.P.init.getD c none with
    | some f => dflB q f dv
    | none => true) && as sc es
  | _ => false
def cMeth (o : KE) (m : Nat) (as : KA) : KE := fun _ sc e => match e with
  | .Call (.Attribute e m' apos) es [] pos => decide (m' = mN q m) && noSup e && decide (es.length < 30) && (apos.endLine == pos.line) && o false sc e && as sc es
  | _ => false
def cSup (f : Nat) (as : KA) : KE := fun _ sc e => match e with
  | .Call (.Attribute (.Name y _) m apos) es [] pos => decide (m = "__init__") && glB sc y && !dbgB y && (match q.tx.cnm.lookup y with
    | some c => decide (q.P.init.getD c none = some f)
    | none => false) && !es.isEmpty && decide (es.length < 30) && (apos.endLine == pos.line) && as sc es
  | _ => false
def cBi (b : BI) (as : KA) : KE := fun _ sc e => match e with
  | .Call (.Name y _) es [] _ => biOk b && decide (y = biName b) && glB sc y && !es.isEmpty && as sc es
  | _ => false
def bmOk : BM → List Expr → Bool
  | .append, es => !es.isEmpty
  | .extend, es => !es.isEmpty
  | .clear, es => es.isEmpty
  | .get, es => !es.isEmpty && decide (es.length ≤ 2)
  | .split, es => !es.isEmpty
  | .startswith, es => !es.isEmpty
  | .join, es => !es.isEmpty
  | .index, es => !es.isEmpty
  | _, _ => false
def cBm (b : BM) (o : KE) (as : KA) : KE := fun _ sc e => match e with
  | .Call (.Attribute e m apos) es [] pos => decide (m = bmName b) && bmOk b es && noSup e && decide (es.length < 30) && (apos.endLine == pos.line) && o false sc e && as sc es
  | _ => false
def cFld (o : KE) (f : Nat) : KE := fun _ sc e => match e with
  | .Attribute e y _ => decide (y = q.T.fN f) && noSup e && o false sc e
  | _ => false
def cInr (neg : Bool) (a n : KE) : KE := fun _ sc e => match e with
  | .Compare e [op] [.Call (.Name y _) [f] [] _] _ => decide (op = if neg then .NotIn else .In) && decide (y = "range") && glB sc "range" && a false sc e && n false sc f && plE f
  | _ => false
def noSlB : Expr → Bool
  | .Tuple .. => true
  | .Slice .. => false
  | e => plE e
def cIx (a b : KE) : KE := fun _ sc e => match e with
  | .Subscript e i _ => a false sc e && b false sc i && plE i
  | _ => false
def cSl (a : KE) (l h : Scope → Option Expr → Bool) : KE := fun _ sc e => match e with
  | .Subscript e (.Slice el eh none _) _ => a false sc e && l sc el && h sc eh
  | _ => false
def cTup (as : KA) : KE := fun t sc e => tst t e && match e with
  | .Tuple es _ _ => as sc es && decide (es.length ≤ 1000)
  | _ => false
def cLst (as : KA) : KE := fun t sc e => tst t e && match e with
  | .List es _ => as sc es && decide (es.length ≤ 1000)
  | _ => false
def cDnew : KE := fun t _ e => tst t e && match e with
  | .Dict [] [] _ => true
  | _ => false
def isTup : Expr → Bool
  | .Tuple .. => true
  | _ => false
/-- what is walked -/
def cIt (k : ITK) (as : KA) (sc : Scope) (tg iter : Expr) : Bool := match k with
  | .seq => as sc [iter] && plE iter
  | .rng1 => match iter with
    | .Call (.Name y _) [e] [] _ => decide (y = "range") && glB sc "range" && plE e && as sc [e]
    | _ => false
  | .rng2 => match iter with
    | .Call (.Name y _) [e, f] [] _ => decide (y = "range") && glB sc "range" && plE e && plE f && as sc [e, f]
    | _ => false
  | .enum => match iter with
    | .Call (.Name y _) [e] [] _ => decide (y = "enumerate") && glB sc "enumerate" && plE e && as sc [e] && isTup tg
    | _ => false
  | .zip => match iter with
    | .Call (.Name y _) [e, f] [] _ => decide (y = "zip") && glB sc "zip" && plE e && plE f && as sc [e, f] && isTup tg
    | _ => false
  | .rev => match iter with
    | .Call (.Name y _) [e] [] _ => decide (y = "reversed") && glB sc "reversed" && plE e && as sc [e]
    | _ => false
  | .items => match iter with
    | .Call (.Attribute e m apos) [] [] cpos => decide (m = "items") && noSup e && (apos.endLine == cpos.line) && as sc [e] && isTup tg
    | _ => false
/-- the names of a block's own slots -/
def ownN (own : List Nat) : List (Str × Nat) := own.filterMap fun i => (N[i]?).map fun y => (y, i)
def litT : CE → Bool
  | .lit (.bl true) => true
  | _ => false
def cLc (k : ITK) (it : KA) (tg : TGT) (c : CE) (kc e : KE) (own : List Nat) : KE := fun t sc ex => tst t ex && match ex with
  | .ListComp elt [g] scope _ => match g with
    | ⟨tge, iter, ifs, n⟩ => decide (n = 0) && decide ((ownN N own).map (·.2) = own) && blkC N sc scope (ownN N own) && tgIn own tg && cIt k it sc tge iter && okG N (relS scope sc) false tg tge && (match ifs with
      | [] => litT c
      | [f] => kc true (relS scope sc) f
      | _ => false) && e false (relS scope sc) elt
  | _ => false
mutual
def okE : CE → KE
  | .lit d => cLit d
  | .var i => cVar N i
  | .glo j => cGlo q j
  | .bin o a b => cBin o (okE a) (okE b)
  | .neg a => cNeg (okE a)
  | .cmp o a b => cCmp o (okE a) (okE b)
  | .chn o o2 a b c => cChn o o2 (okE a) (okE b) (okE c)
  | .and a b => cAnd (okE a) (okE b)
  | .or a b => cOr (okE a) (okE b)
  | .not a => cNot (okE a)
  | .ite c a b => cIte (okE c) (okE a) (okE b)
  | .isi a ts => cIsi q (okE a) ts
  | .call f as dv => cCall q f (okA as) dv
  | .make c _ as dv => cMake q c (okA as) dv
  | .meth o m as => cMeth q (okE o) m (okA as)
  | .sup f as => cSup q f (okA as)
  | .bi b as => cBi b (okA as)
  | .bm b o as => cBm b (okE o) (okA as)
  | .unk => fun _ _ _ => true
  | .inr neg a n => cInr neg (okE a) (okE n)
  | .fld o f => cFld q (okE o) f
  | .ix a b => cIx (okE a) (okE b)
  | .sl a l h => cSl (okE a) (okP l) (okP h)
  | .tup as => cTup (okA as)
  | .lst _ as => cLst (okA as)
  | .dnew _ _ => cDnew
  | .lc _ k it tg c e own => cLc N k (okA it) tg c (okE c) (okE e) own
  | _ => fun _ _ _ => false
termination_by structural x => x
def okA : CE → KA
  | .anil => fun _ es => es.isEmpty
  | .acons a r => fun sc es => match es with
    | e :: es => okE a false sc e && plE e && okA r sc es
    | [] => false
  | _ => fun _ _ => false
termination_by structural x => x
def okP : CE → Scope → Option Expr → Bool
  | .npt => fun _ e => e.isNone
  | .prt a => fun sc e => match e with
    | some e => okE a false sc e
    | none => false
  | _ => fun _ _ => false
termination_by structural x => x
end
end
end Co

set_option linter.all false
set_option maxRecDepth 100000
set_option Elab.async false
/-! Co21: what passes the check is told by the evaluator. -/
namespace Co
open PySem L2
variable {q : Cq} {N : List Str}
def Gl (q : Cq) (W : WX) (X : Cx) (t : Bool) (e : Expr) (c : CE) : Prop := match t with
  | true => PT X e (tT q W c)
  | false => PE X e (tE q W c)
def Snd (q : Cq) (N : List Str) (k : KE) (c : CE) : Prop := ∀ t sc e, k t sc e = true → ∀ W X, XOk q sc N W X → Gl q W X t e c
def SndA (q : Cq) (N : List Str) (k : KA) (c : CE) : Prop := ∀ sc es, k sc es = true → ∀ W X, XOk q sc N W X → Args X q W c es
def SndP (q : Cq) (N : List Str) (k : Scope → Option Expr → Bool) (c : CE) : Prop := ∀ sc e, k sc e = true → ∀ W X, XOk q sc N W X → PO X e (tP q W c)
theorem gl_of {sc : Scope} {W : WX} {X : Cx} {t : Bool} {e : Expr} {c : CE} (x : XOk q sc N W X) (ht : tst t e = true) (h : PE X e (tE q W c)) : Gl q W X t e c := by
  cases t with
  | false => exact h
  | true => exact st_gen x h ht
theorem noSl_of {i : Expr} (h : plE i = true) : NoSl i := by
  intro ov iv
  cases i <;> first | rfl | exact Bool.noConfusion h
theorem snd_lit {d : D} : Snd q N (cLit d) (.lit d) := by
  intro t sc e h W X x
  unfold cLit at h
  rw [Bool.and_eq_true] at h
  refine gl_of x h.1 ?_
  have h2 := h.2
  split at h2
  · exact se_lit h2
  · cases h2
theorem snd_var {i : Nat} : Snd q N (cVar N i) (.var i) := by
  intro t sc e h W X x
  unfold cVar at h
  split at h
  · simp only [Bool.and_eq_true, decide_eq_true_eq, Bool.not_eq_true'] at h
    exact gl_of x (by unfold tst; cases t <;> rfl) (se_var x h.1.1 h.1.2 h.2)
  · cases h
theorem snd_glo {i : Nat} : Snd q N (cGlo q i) (.glo i) := by
  intro t sc e h W X x
  unfold cGlo at h
  split at h
  · simp only [Bool.and_eq_true, decide_eq_true_eq, Bool.not_eq_true'] at h
    exact gl_of x (by unfold tst; cases t <;> rfl) (se_glo x h.1.1 h.1.2 h.2)
  · cases h
theorem snd_bin {o : BinO} {ka kb : KE} {a b : CE} (ha : Snd q N ka a) (hb : Snd q N kb b) : Snd q N (cBin o ka kb) (.bin o a b) := by
  intro t sc e h W X x
  unfold cBin at h
  rw [Bool.and_eq_true] at h
  refine gl_of x h.1 ?_
  have h2 := h.2
  split at h2
  · simp only [Bool.and_eq_true, decide_eq_true_eq] at h2
    exact se_bin x h2.1.1 (ha _ _ _ h2.1.2 W X x) (hb _ _ _ h2.2 W X x)
  · cases h2
theorem snd_neg {ka : KE} {a : CE} (ha : Snd q N ka a) : Snd q N (cNeg ka) (.neg a) := by
  intro t sc e h W X x
  unfold cNeg at h
  cases t with
  | true => cases h
  | false =>
    simp only [Bool.not_false, Bool.true_and] at h
    split at h
    · exact se_neg (ha _ _ _ h W X x)
    · cases h
theorem snd_cmp {o : CmpO} {ka kb : KE} {a b : CE} (ha : Snd q N ka a) (hb : Snd q N kb b) : Snd q N (cCmp o ka kb) (.cmp o a b) := by
  intro t sc e h W X x
  unfold cCmp at h
  split at h
  · simp only [Bool.and_eq_true, decide_eq_true_eq] at h
    cases t with
    | false => exact se_cmp x h.1.1.1 (ha _ _ _ h.1.1.2 W X x) (hb _ _ _ h.1.2 W X x) h.2
    | true => exact st_cmp x h.1.1.1 (ha _ _ _ h.1.1.2 W X x) (hb _ _ _ h.1.2 W X x) h.2
  · cases h
theorem ord_of {op : CmpOp} {o : CmpO} (h : ordB op o = true) : ∃ f, oOrd op = some (o, f) := by
  unfold ordB at h
  split at h
  · rename_i p hp
    obtain ⟨o', f⟩ := p
    have := of_decide_eq_true h
    simp only at this
    subst this
    exact ⟨f, hp⟩
  · cases h
theorem snd_chn {o o2 : CmpO} {ka kb kc : KE} {a b c : CE} (ha : Snd q N ka a) (hb : Snd q N kb b) (hc : Snd q N kc c) : Snd q N (cChn o o2 ka kb kc) (.chn o o2 a b c) := by
  intro t sc e h W X x
  unfold cChn at h
  split at h
  · simp only [Bool.and_eq_true] at h
    obtain ⟨⟨⟨⟨⟨h1, h2⟩, h3⟩, h4⟩, h5⟩, h6⟩ := h
    obtain ⟨f1, e1⟩ := ord_of h1
    obtain ⟨f2, e2⟩ := ord_of h2
    cases t with
    | false => exact se_chn e1 e2 x (ha _ _ _ h3 W X x) (hb _ _ _ h4 W X x) (hc _ _ _ h5 W X x) h6
    | true => exact st_chn e1 e2 x (ha _ _ _ h3 W X x) (hb _ _ _ h4 W X x) (hc _ _ _ h5 W X x) h6
  · cases h
theorem snd_and {ka kb : KE} {a b : CE} (ha : Snd q N ka a) (hb : Snd q N kb b) : Snd q N (cAnd ka kb) (.and a b) := by
  intro t sc e h W X x
  unfold cAnd at h
  split at h
  · rename_i e1 f r pos
    rw [Bool.and_eq_true] at h
    have h1 := ha _ _ _ h.1 W X x
    cases t with
    | false =>
      refine se_and x h1 ?_
      have h2 := h.2
      split at h2
      · exact pe_one (hb _ _ _ h2 W X x)
      · exact hb _ _ _ h2 W X x
    | true =>
      refine st_and h1 ?_
      have h2 := h.2
      split at h2
      · exact st_one (hb _ _ _ h2 W X x)
      · exact hb _ _ _ h2 W X x
  · cases h
theorem snd_or {ka kb : KE} {a b : CE} (ha : Snd q N ka a) (hb : Snd q N kb b) : Snd q N (cOr ka kb) (.or a b) := by
  intro t sc e h W X x
  unfold cOr at h
  split at h
  · rename_i e1 f r pos
    rw [Bool.and_eq_true] at h
    have h1 := ha _ _ _ h.1 W X x
    cases t with
    | false =>
      refine se_or x h1 ?_
      have h2 := h.2
      split at h2
      · exact pe_one (hb _ _ _ h2 W X x)
      · exact hb _ _ _ h2 W X x
    | true =>
      refine st_or h1 ?_
      have h2 := h.2
      split at h2
      · exact st_one (hb _ _ _ h2 W X x)
      · exact hb _ _ _ h2 W X x
  · cases h
theorem snd_not {ka : KE} {a : CE} (ha : Snd q N ka a) : Snd q N (cNot ka) (.not a) := by
  intro t sc e h W X x
  unfold cNot at h
  split at h
  · have h1 := ha _ _ _ h W X x
    cases t with
    | false => exact se_not x h1
    | true => exact st_not h1
  · cases h
theorem snd_ite {kc ka kb : KE} {c a b : CE} (hc : Snd q N kc c) (ha : Snd q N ka a) (hb : Snd q N kb b) : Snd q N (cIte kc ka kb) (.ite c a b) := by
  intro t sc e h W X x
  unfold cIte at h
  cases t with
  | true => cases h
  | false =>
    simp only [Bool.not_false, Bool.true_and] at h
    split at h
    · rw [Bool.and_eq_true, Bool.and_eq_true] at h
      exact se_ite x (hc _ _ _ h.1.1 W X x) (ha _ _ _ h.1.2 W X x) (hb _ _ _ h.2 W X x)
    · cases h
theorem snd_isi {ka : KE} {a : CE} {ts : List Ty} (ha : Snd q N ka a) : Snd q N (cIsi q ka ts) (.isi a ts) := by
  intro t sc e h W X x
  unfold cIsi at h
  split at h
  · simp only [Bool.and_eq_true, decide_eq_true_eq] at h
    obtain ⟨⟨⟨⟨rfl, h1⟩, h2⟩, h3⟩, h4⟩ := h
    exact gl_of x (by unfold tst; cases t <;> rfl) (se_isi x h1 (ha _ _ _ h2 W X x) h3 h4)
  · cases h
theorem snd_call {f : Nat} {ka : KA} {as : CE} {dv : List D} (ha : SndA q N ka as) : Snd q N (cCall q f ka dv) (.call f as dv) := by
  intro t sc e h W X x
  unfold cCall at h
  split at h
  · simp only [Bool.and_eq_true, decide_eq_true_eq, Bool.not_eq_true'] at h
    obtain ⟨⟨⟨⟨h1, h2⟩, h3⟩, h4⟩, h5⟩ := h
    exact gl_of x (by unfold tst; cases t <;> rfl) (se_call x h1 h2 h3 h4 (ha _ _ h5 W X x))
  · cases h
theorem snd_make {c : Nat} {fz : Bool} {ka : KA} {as : CE} {dv : List D} (ha : SndA q N ka as) : Snd q N (cMake q c ka dv) (.make c fz as dv) := by
  intro t sc e h W X x
  unfold cMake at h
  split at h
  · simp only [Bool.and_eq_true, decide_eq_true_eq, Bool.not_eq_true'] at h
    obtain ⟨⟨⟨⟨h1, h2⟩, h3⟩, h4⟩, h5⟩ := h
    exact gl_of x (by unfold tst; cases t <;> rfl) (se_make x h1 h2 h3 (fun f hf => by rw [hf] at h4; exact h4) (ha _ _ h5 W X x))
  · cases h
theorem dfl_nil (f : Nat) : dflB q f [] = true := by
  unfold dflB
  simp
theorem snd_meth {ko : KE} {o : CE} {m : Nat} {ka : KA} {as : CE} (ho : Snd q N ko o) (ha : SndA q N ka as) : Snd q N (cMeth q ko m ka) (.meth o m as) := by
  intro t sc e h W X x
  unfold cMeth at h
  split at h
  · simp only [Bool.and_eq_true, decide_eq_true_eq] at h
    obtain ⟨⟨⟨⟨⟨rfl, h1⟩, h2⟩, h3⟩, h4⟩, h5⟩ := h
    have A := ha _ _ h5 W X x
    exact gl_of x (by unfold tst; cases t <;> rfl) (se_meth x (ho _ _ _ h4 W X x) A.pa h1 A.pl h2 h3 A.nl' dfl_nil)
  · cases h
theorem ne_of_isEmpty {α : Type} {l : List α} (h : (!l.isEmpty) = true) : l ≠ [] := by
  intro e
  rw [e] at h
  cases h
theorem snd_sup {f : Nat} {ka : KA} {as : CE} (ha : SndA q N ka as) : Snd q N (cSup q f ka) (.sup f as) := by
  intro t sc e h W X x
  unfold cSup at h
  split at h
  · simp only [Bool.and_eq_true, decide_eq_true_eq, Bool.not_eq_true'] at h
    obtain ⟨⟨⟨⟨⟨⟨⟨rfl, h1⟩, h2⟩, h3⟩, h4⟩, h5⟩, h6⟩, h7⟩ := h
    split at h3
    · rename_i c hc
      exact gl_of x (by unfold tst; cases t <;> rfl) (se_sup x h1 h2 hc (of_decide_eq_true h3) (ha _ _ h7 W X x) (ne_of_isEmpty (by rw [h4]; rfl)) h5 h6)
    · cases h3
  · cases h
theorem snd_bi {b : BI} {ka : KA} {as : CE} (ha : SndA q N ka as) : Snd q N (cBi b ka) (.bi b as) := by
  intro t sc e h W X x
  unfold cBi at h
  split at h
  · simp only [Bool.and_eq_true, decide_eq_true_eq] at h
    obtain ⟨⟨⟨⟨h1, rfl⟩, h2⟩, h3⟩, h4⟩ := h
    exact gl_of x (by unfold tst; cases t <;> rfl) (se_bi x h1 h2 (ha _ _ h4 W X x) (ne_of_isEmpty h3))
  · cases h
theorem snd_bm {b : BM} {ko : KE} {o : CE} {ka : KA} {as : CE} (ho : Snd q N ko o) (ha : SndA q N ka as) : Snd q N (cBm b ko ka) (.bm b o as) := by
  intro t sc e h W X x
  unfold cBm at h
  split at h
  · simp only [Bool.and_eq_true, decide_eq_true_eq] at h
    obtain ⟨⟨⟨⟨⟨⟨rfl, h0⟩, h1⟩, h2⟩, h3⟩, h4⟩, h5⟩ := h
    have A := ha _ _ h5 W X x
    have ho := ho _ _ _ h4 W X x
    refine gl_of x (by unfold tst; cases t <;> rfl) ?_
    cases b <;> first | cases h0 | skip
    · exact bm_append x ho A.pa ⟨h1, A.pl, h2, h3⟩ (ne_of_isEmpty h0)
    · exact bm_extend x ho A.pa ⟨h1, A.pl, h2, h3⟩ (ne_of_isEmpty h0)
    · have h0' : List.isEmpty _ = true := h0
      obtain rfl := List.isEmpty_iff.mp h0'
      rw [A.nl]
      exact bm_clear x ho h1 h3
    · have h0' : (!List.isEmpty _ && decide (List.length _ ≤ 2)) = true := h0
      rw [Bool.and_eq_true, decide_eq_true_eq] at h0'
      exact bm_get x ho A ⟨h1, A.pl, h2, h3⟩ h0'.2 (ne_of_isEmpty h0'.1)
    · exact bm_split x ho A ⟨h1, A.pl, h2, h3⟩ (ne_of_isEmpty h0)
    · exact bm_join x ho A ⟨h1, A.pl, h2, h3⟩ (ne_of_isEmpty h0)
    · exact bm_startswith x ho A ⟨h1, A.pl, h2, h3⟩ (ne_of_isEmpty h0)
    · exact bm_index x ho A ⟨h1, A.pl, h2, h3⟩ (ne_of_isEmpty h0)
  · cases h
theorem snd_unk : Snd q N (fun _ _ _ => true) .unk := by
  intro t sc e h W X x
  cases t with
  | false => exact PE.dyn fun σ H Q ⟨env, μ, ι, G, R, S, c⟩ => c.elim
  | true => exact PT.dyn fun σ H Q ⟨env, μ, ι, G, R, S, c⟩ => c.elim
theorem snd_inr {neg : Bool} {ka kn : KE} {a n : CE} (ha : Snd q N ka a) (hn : Snd q N kn n) : Snd q N (cInr neg ka kn) (.inr neg a n) := by
  intro t sc e h W X x
  unfold cInr at h
  split at h
  · simp only [Bool.and_eq_true, decide_eq_true_eq] at h
    obtain ⟨⟨⟨⟨⟨rfl, rfl⟩, h1⟩, h2⟩, h3⟩, h4⟩ := h
    cases t with
    | false => exact se_inr x h1 (ha _ _ _ h2 W X x) (hn _ _ _ h3 W X x) h4
    | true => exact st_inr x h1 (ha _ _ _ h2 W X x) (hn _ _ _ h3 W X x) h4
  · cases h
theorem snd_fld {ko : KE} {o : CE} {f : Nat} (ho : Snd q N ko o) : Snd q N (cFld q ko f) (.fld o f) := by
  intro t sc e h W X x
  unfold cFld at h
  split at h
  · simp only [Bool.and_eq_true, decide_eq_true_eq] at h
    obtain ⟨⟨rfl, h1⟩, h2⟩ := h
    exact gl_of x (by unfold tst; cases t <;> rfl) (se_fld x (ho _ _ _ h2 W X x) h1)
  · cases h
theorem snd_ix {ka kb : KE} {a b : CE} (ha : Snd q N ka a) (hb : Snd q N kb b) : Snd q N (cIx ka kb) (.ix a b) := by
  intro t sc e h W X x
  unfold cIx at h
  split at h
  · rw [Bool.and_eq_true, Bool.and_eq_true] at h
    exact gl_of x (by unfold tst; cases t <;> rfl) (se_ix x (ha _ _ _ h.1.1 W X x) (hb _ _ _ h.1.2 W X x) h.2 (noSl_of h.2))
  · cases h
theorem snd_sl {ka : KE} {a : CE} {kl kh : Scope → Option Expr → Bool} {l r : CE} (ha : Snd q N ka a) (hl : SndP q N kl l) (hr : SndP q N kh r) : Snd q N (cSl ka kl kh) (.sl a l r) := by
  intro t sc e h W X x
  unfold cSl at h
  split at h
  · rw [Bool.and_eq_true, Bool.and_eq_true] at h
    exact gl_of x (by unfold tst; cases t <;> rfl) (se_sl x (ha _ _ _ h.1.1 W X x) (hl _ _ h.1.2 W X x) (hr _ _ h.2 W X x))
  · cases h
theorem snd_tup {ka : KA} {as : CE} (ha : SndA q N ka as) : Snd q N (cTup ka) (.tup as) := by
  intro t sc e h W X x
  unfold cTup at h
  rw [Bool.and_eq_true] at h
  refine gl_of x h.1 ?_
  have h2 := h.2
  split at h2
  · rw [Bool.and_eq_true, decide_eq_true_eq] at h2
    exact se_tup (ha _ _ h2.1 W X x) h2.2
  · cases h2
theorem snd_lst {fz : Bool} {ka : KA} {as : CE} (ha : SndA q N ka as) : Snd q N (cLst ka) (.lst fz as) := by
  intro t sc e h W X x
  unfold cLst at h
  rw [Bool.and_eq_true] at h
  refine gl_of x h.1 ?_
  have h2 := h.2
  split at h2
  · rw [Bool.and_eq_true, decide_eq_true_eq] at h2
    exact se_lst (ha _ _ h2.1 W X x) h2.2
  · cases h2
theorem snd_dnew {t fz : Bool} : Snd q N cDnew (.dnew t fz) := by
  intro t sc e h W X x
  unfold cDnew at h
  rw [Bool.and_eq_true] at h
  refine gl_of x h.1 ?_
  have h2 := h.2
  split at h2
  · exact se_dnew
  · cases h2
theorem arg1 {X : Cx} {W : WX} {as : CE} {e : Expr} (A : Args X q W as [e]) : ∃ a, as = .acons a .anil ∧ PE X e (tE q W a) := by
  cases A with
  | cons h1 _ A => cases A; exact ⟨_, rfl, h1⟩
theorem isTup_of {e : Expr} (h : isTup e = true) : ∃ l k p, e = .Tuple l k p := by
  cases e <;> first | exact ⟨_, _, _, rfl⟩ | exact Bool.noConfusion h
theorem snd_it {k : ITK} {ka : KA} {as : CE} (ha : SndA q N ka as) {sc : Scope} {W : WX} {X : Cx} (x : XOk q sc N W X) {tg iter : Expr} (h : cIt k ka sc tg iter = true) : PI X tg iter (tI q W k as) ∧ plE iter = true := by
  unfold cIt at h
  cases k <;> simp only at h
  · rw [Bool.and_eq_true] at h
    obtain ⟨a, rfl, h1⟩ := arg1 (ha _ _ h.1 W X x)
    exact ⟨pi_seq x h1, h.2⟩
  · split at h
    · simp only [Bool.and_eq_true, decide_eq_true_eq] at h
      obtain ⟨⟨⟨rfl, h1⟩, h2⟩, h3⟩ := h
      exact ⟨pi_rng1 x h1 h2 (ha _ _ h3 W X x).pa, rfl⟩
    · cases h
  · split at h
    · simp only [Bool.and_eq_true, decide_eq_true_eq] at h
      obtain ⟨⟨⟨⟨rfl, h1⟩, h2⟩, h2'⟩, h3⟩ := h
      exact ⟨pi_rng2 x h1 h2 h2' (ha _ _ h3 W X x).pa, rfl⟩
    · cases h
  · split at h
    · simp only [Bool.and_eq_true, decide_eq_true_eq] at h
      obtain ⟨⟨⟨⟨rfl, h1⟩, h2⟩, h3⟩, h4⟩ := h
      obtain ⟨_, _, _, rfl⟩ := isTup_of h4
      exact ⟨pi_enu x h1 h2 (ha _ _ h3 W X x).pa, rfl⟩
    · cases h
  · split at h
    · simp only [Bool.and_eq_true, decide_eq_true_eq] at h
      obtain ⟨⟨⟨⟨⟨rfl, h1⟩, h2⟩, h2'⟩, h3⟩, h4⟩ := h
      obtain ⟨_, _, _, rfl⟩ := isTup_of h4
      exact ⟨pi_zi x h1 h2 h2' (ha _ _ h3 W X x).pa, rfl⟩
    · cases h
  · split at h
    · simp only [Bool.and_eq_true, decide_eq_true_eq] at h
      obtain ⟨⟨⟨⟨rfl, h1⟩, h2⟩, h3⟩, h4⟩ := h
      obtain ⟨a, rfl, h5⟩ := arg1 (ha _ _ h3 W X x)
      obtain ⟨_, _, _, rfl⟩ := isTup_of h4
      exact ⟨pi_it x h1 h2 h5, rfl⟩
    · cases h
  · split at h
    · simp only [Bool.and_eq_true, decide_eq_true_eq] at h
      obtain ⟨⟨⟨rfl, h1⟩, h2⟩, h3⟩ := h
      obtain ⟨a, rfl, h5⟩ := arg1 (ha _ _ h3 W X x)
      exact ⟨pi_rv x h1 h2 h5, rfl⟩
    · cases h
theorem litT_of {c : CE} (h : litT c = true) : c = .lit (.bl true) := by
  unfold litT at h
  split at h
  · rfl
  · cases h
/-- what is checked of a comprehension -/
theorem lcok_of {k : ITK} {ka : KA} {it c e : CE} {kc ke : KE} {tg : TGT} {own : List Nat} (hi : SndA q N ka it) (hc : Snd q N kc c) (he : Snd q N ke e) {sc : Scope} {W : WX} {X : Cx} (x : XOk q sc N W X) {t : Bool} {ex : Expr} (h : cLc N k ka tg c kc ke own t sc ex = true) :
    tst t ex = true ∧ ∃ elt tge iter ifs scope pos, ex = .ListComp elt [⟨tge, iter, ifs, 0⟩] scope pos ∧ (ownN N own).map (·.2) = own ∧ LcOk q sc N W X k it tg c e elt tge iter ifs scope (ownN N own) := by
  unfold cLc at h
  rw [Bool.and_eq_true] at h
  refine ⟨h.1, ?_⟩
  have h2 := h.2
  split at h2
  · rename_i elt g scope pos
    obtain ⟨tge, iter, ifs, n⟩ := g
    simp only [Bool.and_eq_true, decide_eq_true_eq] at h2
    obtain ⟨⟨⟨⟨⟨⟨⟨rfl, h1⟩, h2⟩, h3⟩, h4⟩, h5⟩, h6⟩, h7⟩ := h2
    obtain ⟨pi, pl⟩ := snd_it hi x h4
    refine ⟨elt, tge, iter, ifs, scope, pos, rfl, h1, ?_, by rw [h1]; exact h3, h2, pi, pl, h5, fun X' x' f hf => ?_, fun X' x' => he _ _ _ h7 W0 X' x'⟩
    · split at h6
      · exact litT_of h6
      · trivial
      · cases h6
    · split at h6
      · cases hf
      · rw [List.mem_singleton] at hf
        subst hf
        exact hc _ _ _ h6 W0 X' x'
      · cases h6
  · cases h2
theorem snd_lc {fz : Bool} {k : ITK} {ka : KA} {it c e : CE} {kc ke : KE} {tg : TGT} {own : List Nat} (hi : SndA q N ka it) (hc : Snd q N kc c) (he : Snd q N ke e) : Snd q N (cLc N k ka tg c kc ke own) (.lc fz k it tg c e own) := by
  intro t sc ex h W X x
  obtain ⟨h1, elt, tge, iter, ifs, scope, pos, rfl, h2, l⟩ := lcok_of hi hc he x h
  refine gl_of x h1 ?_
  have := se_lc (fz := fz) (pos := pos) x l
  rw [h2] at this
  exact this
theorem okE_all : ∀ c : CE, Snd q N (okE q N c) c ∧ SndA q N (okA q N c) c ∧ SndP q N (okP q N c) c := by
  have noA : ∀ c, SndA q N (fun _ _ => false) c := fun c sc es h => by cases h
  have noP : ∀ c, SndP q N (fun _ _ => false) c := fun c sc es h => by cases h
  have noE : ∀ c, Snd q N (fun _ _ _ => false) c := fun c t sc es h => by cases h
  intro c
  induction c with
  | lit d => exact ⟨snd_lit, noA _, noP _⟩
  | var i => exact ⟨snd_var, noA _, noP _⟩
  | glo i => exact ⟨snd_glo, noA _, noP _⟩
  | bin o a b ha hb => exact ⟨snd_bin ha.1 hb.1, noA _, noP _⟩
  | neg a ha => exact ⟨snd_neg ha.1, noA _, noP _⟩
  | cmp o a b ha hb => exact ⟨snd_cmp ha.1 hb.1, noA _, noP _⟩
  | chn o o2 a b c ha hb hc => exact ⟨snd_chn ha.1 hb.1 hc.1, noA _, noP _⟩
  | and a b ha hb => exact ⟨snd_and ha.1 hb.1, noA _, noP _⟩
  | or a b ha hb => exact ⟨snd_or ha.1 hb.1, noA _, noP _⟩
  | not a ha => exact ⟨snd_not ha.1, noA _, noP _⟩
  | ite c a b hc ha hb => exact ⟨snd_ite hc.1 ha.1 hb.1, noA _, noP _⟩
  | isi a ts ha => exact ⟨snd_isi ha.1, noA _, noP _⟩
  | call f as dv ha => exact ⟨snd_call ha.2.1, noA _, noP _⟩
  | make c fz as dv ha => exact ⟨snd_make ha.2.1, noA _, noP _⟩
  | meth o m as ho ha => exact ⟨snd_meth ho.1 ha.2.1, noA _, noP _⟩
  | sup f as ha => exact ⟨snd_sup ha.2.1, noA _, noP _⟩
  | bi b as ha => exact ⟨snd_bi ha.2.1, noA _, noP _⟩
  | bm b o as ho ha => exact ⟨snd_bm ho.1 ha.2.1, noA _, noP _⟩
  | unk => exact ⟨snd_unk, noA _, noP _⟩
  | inr neg a n ha hn => exact ⟨snd_inr ha.1 hn.1, noA _, noP _⟩
  | fld o f ho => exact ⟨snd_fld ho.1, noA _, noP _⟩
  | ix a b ha hb => exact ⟨snd_ix ha.1 hb.1, noA _, noP _⟩
  | sl a l h ha hl hh => exact ⟨snd_sl ha.1 hl.2.2 hh.2.2, noA _, noP _⟩
  | tup as ha => exact ⟨snd_tup ha.2.1, noA _, noP _⟩
  | lst fz as ha => exact ⟨snd_lst ha.2.1, noA _, noP _⟩
  | dnew t fz => exact ⟨snd_dnew (t := t), noA _, noP _⟩
  | lc fz k it tg c e own hi hc he => exact ⟨snd_lc hi.2.1 hc.1 he.1, noA _, noP _⟩
  | anil =>
    refine ⟨noE _, fun sc es h W X x => ?_, noP _⟩
    cases es with
    | nil => exact .nil
    | cons _ _ => cases h
  | acons a r ha hr =>
    refine ⟨noE _, fun sc es h W X x => ?_, noP _⟩
    cases es with
    | nil => cases h
    | cons e es =>
      have h' : (okE q N a false sc e && plE e && okA q N r sc es) = true := h
      rw [Bool.and_eq_true, Bool.and_eq_true] at h'
      exact .cons (ha.1 _ _ _ h'.1.1 W X x) h'.1.2 (hr.2.1 _ _ h'.2 W X x)
  | npt =>
    refine ⟨noE _, noA _, fun sc e h W X x => ?_⟩
    cases e with
    | none => exact po_npt
    | some _ => cases h
  | prt a ha =>
    refine ⟨noE _, noA _, fun sc e h W X x => ?_⟩
    cases e with
    | none => cases h
    | some e => exact po_prt (ha.1 _ _ _ h W X x)
  | _ => exact ⟨noE _, noA _, noP _⟩
end Co

set_option linter.all false
set_option maxRecDepth 100000
set_option Elab.async false
/-! Co22: statements. -/
namespace Co
open PySem L2
variable {q : Cq} {sc : Scope} {N : List Str} {W : WX} {X : Cx}
structure SOk (q : Cq) (sc : Scope) (N : List Str) (W : WX) (X : Cx) : Prop where
  x : XOk q sc N W X
  po : PassesOwn (model X.prog X.w) X.A X.env X.xe
  fnl : ∀ y, X.fn y = true
theorem SOk.g (s : SOk q sc N W X) : GOk q sc N true X := ⟨s.x.eK, s.x.eS, s.x.eN, s.x.nd, s.x.calm, fun _ => s.fnl⟩
def CtS (T : Nam) (W : WX) (ι : List Addr) (G : Hp) (r : RS) (D : Ends) : Prop := match r with
  | .ok (.nx, env) μ => ∀ (σ' : L2.St) (ι' : List Addr) (G' H' : Hp), Grow ι ι' G G' → RelH T ι' G' μ H' → RelS T ι' G' env σ' → D.nx σ' H'
  | .ok (.rt d, _) μ => ∀ (v : V) (ι' : List Addr) (G' H' : Hp), Grow ι ι' G G' → RelH T ι' G' μ H' → RepD T ι' G' v d → D.rt v H'
  | .ok (.bk, env) μ => ∀ (σ' : L2.St) (ι' : List Addr) (G' H' : Hp), Grow ι ι' G G' → RelH T ι' G' μ H' → RelS T ι' G' env σ' → D.bk σ' H'
  | .ok (.ct, env) μ => ∀ (σ' : L2.St) (ι' : List Addr) (G' H' : Hp), Grow ι ι' G G' → RelH T ι' G' μ H' → RelS T ι' G' env σ' → D.ct σ' H'
  | .ex (x, env) μ => ∀ (cls : Value) (dd : Option Addr) (σ' : L2.St) (ι' : List Addr) (G' H' : Hp), Grow ι ι' G G' → RelH T ι' G' μ H' → RelS T ι' G' env σ' → RepX T ι' G' H' cls dd x → W cls dd σ' H'
  | .bad => False
def tS (q : Cq) (W : WX) (s : CS) : TS := fun D σ H => ∃ (env : Env) (μ : Store) (ι : List Addr) (G : Hp), RelH q.T ι G μ H ∧ RelS q.T ι G env σ ∧ CtS q.T W ι G (evS q.P q.call s env μ) D
section
variable {T : Nam} {ι ι' : List Addr} {G G' : Hp} {r : RS} {Z : Ends}
theorem CtS.grow (h : CtS T W ι G r Z) (g : Grow ι ι' G G') : CtS T W ι' G' r Z := by
  cases r with
  | bad => exact h
  | ex x μ => exact fun cls dd σ' ι2 G2 H g2 => h cls dd σ' ι2 G2 H (g.trans g2)
  | ok p μ =>
    obtain ⟨s, env⟩ := p
    cases s with
    | nx => exact fun σ' ι2 G2 H g2 => h σ' ι2 G2 H (g.trans g2)
    | rt d => exact fun v ι2 G2 H g2 => h v ι2 G2 H (g.trans g2)
    | bk => exact fun σ' ι2 G2 H g2 => h σ' ι2 G2 H (g.trans g2)
    | ct => exact fun σ' ι2 G2 H g2 => h σ' ι2 G2 H (g.trans g2)
theorem CtS.lift {env : Env} {σ : L2.St} {rd : RD} {f : D → Store → RS} {Q : VK} (h : CtS T W ι G (Co.lift env rd f) Z) (S : RelS T ι G env σ)
    (k : ∀ d μ v ι' G' H, rd = .ok d μ → Grow ι ι' G G' → RelH T ι' G' μ H → RepD T ι' G' v d → CtS T W ι' G' (f d μ) Z → Q v H) : Ct T W σ ι G rd Q := by
  cases rd with
  | bad => exact h
  | ok d μ => exact fun v ι' G' H g R rv => k d μ v ι' G' H rfl g R rv (CtS.grow h g)
  | ex x μ => exact fun cls dd ι' G' H g R rx => h cls dd σ ι' G' H g R (S.mono g) rx
theorem CtS.ofO {env : Env} {o : Option (Sg × Env)} {μ : Store} (h : CtS T W ι G (Co.ofO o μ) Z) : ∃ p, o = some p ∧ CtS T W ι G (.ok p μ) Z := by
  cases o with
  | none => exact h.elim
  | some p => exact ⟨p, rfl, h⟩
end
theorem PSs.none {t : TS} (h : ∀ D σ H, t D σ H → D.nx σ H) : PSs X [] t := PSs.dyn fun D σ H q => ⟨_, pss_nil, h D σ H q⟩
/-- a store that is none of the swapped ones -/
def plainAsg (e : Expr) : Bool := plE e && !isComp e && !isTup e
theorem plain_parts {e : Expr} (h : plainAsg e = true) : plE e = true ∧ isComp e = false ∧ isTup e = false := by
  unfold plainAsg at h
  simp only [Bool.and_eq_true, Bool.not_eq_true'] at h
  exact ⟨h.1.1, h.1.2, h.2⟩
def isTg : Expr → Bool
  | .Name .. => true
  | .Tuple .. => true
  | _ => false
theorem ss_asg (s : SOk q sc N W X) {tg : TGT} {c : CE} {tge e : Expr} {pos : Pos} (hG : okG N sc true tg tge = true) (hp : plE e = true) (hcp : isComp e = false ∨ ∃ y p, tge = .Name y p ∧ sc.names.lookup y = some .cell) (htp : isTup e = false ∨ ∃ y p, tge = .Name y p) (he : PE X e (tE q W c)) : PS X (.Assign [tge] e pos) (tS q W (.asg tg c)) := by
  have hw : swappedStores [tge] e X.env = pure none := by
    rcases htp with ht | ⟨y, p, rfl⟩
    · cases tge <;> cases e <;> first | rfl | exact Bool.noConfusion ht
    · rfl
  have hsw : swapsWithSole [tge] e pos.line X.env = pure false := by
    unfold swapsWithSole
    rcases hcp with h | ⟨y, p, rfl, hy⟩
    · exact pl_swap hp h _ _ _
    · cases hc : isComp e with
      | false => exact pl_swap hp hc _ _ _
      | true =>
        have ky : X.env.kindOf y = some .cell := by
          show X.env.scope.names.lookup y = _
          rw [s.x.eS]
          exact hy
        have e0 : ((some NameKind.cell == some NameKind.local) : Bool) = false := by decide
        cases e <;> first | exact Bool.noConfusion hc | skip
        unfold swapsWith
        simp only [ky, e0, Bool.and_false, Bool.false_and]
  have h1 : (assignEach [tge] X.env).map (·.2) = [assign tge X.env] := by
    cases tg <;> cases tge <;> first | rfl | exact Bool.noConfusion hG
  refine PS.dyn fun D σ H ⟨env, μ, ι, G, R, S, k⟩ => ⟨_, ps_asg he (pg_ok s.g hG) hsw hw h1, ?_⟩
  have k' : CtS q.T W ι G (Co.lift env (evE q.P q.call c env μ) fun d μ => ofO ((asgT tg d env).map fun env' => (.nx, env')) μ) D := k
  refine ⟨env, μ, ι, G, R, S, k'.lift S fun d μ1 v ι1 G1 H1 _ g r rv k1 => ?_⟩
  obtain ⟨p, hp, k2⟩ := CtS.ofO (env := env) k1
  obtain ⟨env', ha, rfl⟩ := Option.map_eq_some_iff.mp hp
  exact ⟨ι1, G1, μ1, env, env', d, r, S.mono g, rv, ha, fun σ' S' _ _ => k2 σ' ι1 G1 H1 (Grow.refl _ _) r S'⟩
theorem ss_exp {c : CE} {e : Expr} {pos : Pos} (hp : plE e = true) (hc : isComp e = false) (he : PE X e (tE q W c)) : PS X (.Expr e pos) (tS q W (.exp c)) := by
  refine PS.dyn fun D σ H ⟨env, μ, ι, G, R, S, k⟩ => ⟨_, ps_expr he (pl_swap hp hc _ _ _), ?_⟩
  have k' : CtS q.T W ι G (Co.lift env (evE q.P q.call c env μ) fun _ μ => .ok (.nx, env) μ) D := k
  exact ⟨env, μ, ι, G, R, S, k'.lift S fun d μ1 v ι1 G1 H1 _ g r rv k1 => k1 σ ι1 G1 H1 (Grow.refl _ _) r (S.mono g)⟩
theorem ss_ret {c : CE} {e : Expr} {pos : Pos} (he : PE X e (tE q W c)) : PS X (.Return (some e) pos) (tS q W (.ret c)) := by
  refine PS.dyn fun D σ H ⟨env, μ, ι, G, R, S, k⟩ => ⟨_, ps_ret he, ?_⟩
  have k' : CtS q.T W ι G (Co.lift env (evE q.P q.call c env μ) fun d μ => .ok (.rt d, env) μ) D := k
  exact ⟨env, μ, ι, G, R, S, k'.lift S fun d μ1 v ι1 G1 H1 _ g r rv k1 => k1 v ι1 G1 H1 (Grow.refl _ _) r rv⟩
theorem ss_retN {pos : Pos} : PS X (.Return none pos) (tS q W (.ret (.lit .non))) :=
  PS.dyn fun D σ H ⟨env, μ, ι, G, R, S, k⟩ => ⟨_, ps_retN, k .non ι G H (Grow.refl _ _) R .non⟩
theorem ss_ite {c : CE} {a b : CS} {e : Expr} {as bs : List Stmt} {pos : Pos} (he : PT X e (tT q W c)) (ha : PSs X as (tS q W a)) (hb : PSs X bs (tS q W b)) : PS X (.If e as bs pos) (tS q W (.ite c a b)) := by
  refine PS.dyn fun D σ H ⟨env, μ, ι, G, R, S, k⟩ => ⟨_, ps_if he ha hb, env, μ, ι, G, R, S, ?_⟩
  have k' : CtS q.T W ι G (Co.lift env (evE q.P q.call c env μ) fun d μ => match truth μ d with
    | some true => evS q.P q.call a env μ
    | some false => evS q.P q.call b env μ
    | none => .bad) D := k
  cases ee : evE q.P q.call c env μ with
  | bad => rw [ee] at k'; exact k'
  | ex y μ1 => rw [ee] at k'; exact fun cls dd ι' G' H g R rx => k' cls dd σ ι' G' H g R (S.mono g) rx
  | ok d μ1 =>
    rw [ee] at k'
    have k2 : CtS q.T W ι G (match truth μ1 d with
      | some true => evS q.P q.call a env μ1
      | some false => evS q.P q.call b env μ1
      | none => .bad) D := k'
    cases ht : truth μ1 d with
    | none => rw [ht] at k2; exact k2.elim
    | some t =>
      rw [ht] at k2
      unfold bOf
      rw [Res.bind_ok, ht]
      intro t' ι1 G1 H1 g r e
      have e : t' = t := e
      subst e
      cases t' with
      | true => exact ⟨env, μ1, ι1, G1, r, S.mono g, CtS.grow k2 g⟩
      | false => exact ⟨env, μ1, ι1, G1, r, S.mono g, CtS.grow k2 g⟩
theorem ss_brk {pos : Pos} : PS X (.Break pos) (tS q W .brk) := PS.dyn fun D σ H ⟨env, μ, ι, G, R, S, k⟩ => ⟨_, ps_break, k σ ι G H (Grow.refl _ _) R S⟩
theorem ss_cnt {pos : Pos} : PS X (.Continue pos) (tS q W .cnt) := PS.dyn fun D σ H ⟨env, μ, ι, G, R, S, k⟩ => ⟨_, ps_continue, k σ ι G H (Grow.refl _ _) R S⟩
theorem ss_pass {pos : Pos} : PS X (.Pass pos) (tS q W .skip) := PS.dyn fun D σ H ⟨env, μ, ι, G, R, S, k⟩ => ⟨_, ps_pass, k σ ι G H (Grow.refl _ _) R S⟩
/-- one after the other -/
theorem ss_seq {a b : CS} {st : Stmt} {rest : List Stmt} (ha : PS X st (tS q W a)) (hb : PSs X rest (tS q W b)) : PSs X (st :: rest) (tS q W (.seq a b)) := by
  refine PSs.dyn fun D σ H ⟨env, μ, ι, G, R, S, k⟩ => ⟨_, pss_cons ha hb, env, μ, ι, G, R, S, ?_⟩
  have k' : CtS q.T W ι G (match evS q.P q.call a env μ with
    | .ok (.nx, env') μ' => evS q.P q.call b env' μ'
    | .ok (.rt d, env') μ' => .ok (.rt d, env') μ'
    | .ok (.bk, env') μ' => .ok (.bk, env') μ'
    | .ok (.ct, env') μ' => .ok (.ct, env') μ'
    | .ex x μ' => .ex x μ'
    | .bad => .bad) D := k
  cases ee : evS q.P q.call a env μ with
  | bad => rw [ee] at k'; exact k'
  | ex y μ1 => rw [ee] at k'; exact k'
  | ok p μ1 =>
    obtain ⟨sg, env'⟩ := p
    rw [ee] at k'
    cases sg with
    | nx => exact fun σ' ι1 G1 H1 g r s => ⟨env', μ1, ι1, G1, r, s, CtS.grow k' g⟩
    | rt d => exact k'
    | bk => exact k'
    | ct => exact k'
theorem ss_one {a : CS} {st : Stmt} (ha : PS X st (tS q W a)) : PSs X [st] (tS q W a) := pss_one ha
theorem ss_skip : PSs X [] (tS q W .skip) := PSs.dyn fun D σ H ⟨env, μ, ι, G, R, S, k⟩ => ⟨_, pss_nil, k σ ι G H (Grow.refl _ _) R S⟩
/-- slots forgotten -/
theorem ss_clr {vs : List Nat} {b : CS} {sts : List Stmt} (hb : PSs X sts (tS q W b)) : PSs X sts (tS q W (.seq (.clr vs) b)) := by
  refine PSs.dyn fun D σ H ⟨env, μ, ι, G, R, S, k⟩ => ⟨_, hb, wipeE env vs, μ, ι, G, R, S.wipeE vs, k⟩
theorem ss_clr1 {vs : List Nat} : PSs X [] (tS q W (.clr vs)) := PSs.dyn fun D σ H ⟨env, μ, ι, G, R, S, k⟩ => ⟨_, pss_nil, k σ ι G H (Grow.refl _ _) R (S.wipeE vs)⟩
/-- a cell frozen -/
theorem frz_run {i : Nat} {pins : List (Addr × Obj)} {σ : L2.St} {H : Hp} {s : Shared} {env : Env} {μ : Store} {ι : List Addr} {G : Hp} (I : Inv X pins σ H s) (R : RelH q.T ι G μ H) (S : RelS q.T ι G env σ) {D : Ends} {f : Env → Store → RS}
    (k : CtS q.T W ι G (match evS q.P q.call (.frz i) env μ with
      | .ok (.nx, env') μ' => f env' μ'
      | _ => .bad) D) : ∃ (env' : Env) (μ' : Store) (G' H' : Hp), Inv X pins σ H' s ∧ RelH q.T ι G' μ' H' ∧ RelS q.T ι G' env' σ ∧ Grow ι ι G G' ∧ CtS q.T W ι G' (f env' μ') D := by
  have hev : evS q.P q.call (.frz i) env μ = (match getV env i with
    | some (.cell j) => match thawD j μ with
      | some (d, μ') => .ok (.nx, env.set i (some d)) μ'
      | none => .bad
    | some _ => .ok (.nx, env) μ
    | none => .bad) := rfl
  rw [hev] at k
  cases hv : getV env i with
  | none => rw [hv] at k; exact k.elim
  | some d =>
    rw [hv] at k
    obtain ⟨v, hs, hr⟩ := S.at_ i d (getV_some hv)
    cases d with
    | cell j =>
      simp only at k
      cases hr with
      | cell ha =>
        rename_i a
        cases hc : μ[j]? with
        | none => simp only [thawD, thaw, hc] at k; exact k.elim
        | some c => cases c with
          | dic t kvs =>
            simp only [thawD, hc] at k
            obtain ⟨u, hu, mu, fr⟩ := R.thawD hc ha
            obtain ⟨od, I2⟩ := I.lock hu mu
            obtain ⟨G', g, R', rd⟩ := fr od
            refine ⟨_, _, G', _, I2, R', ?_, g, CtS.grow k g⟩
            have S2 := (S.mono g).set rd i
            have e : σ.set i (some (V.ref a)) = σ := by
              apply List.ext_getElem?
              intro n
              by_cases hn : i = n
              · subst hn
                rw [List.getElem?_set_self (List.getElem?_eq_some_iff.mp hs).1, hs]
              · rw [List.getElem?_set_ne hn]
            rw [e] at S2
            exact S2
          | _ =>
            simp only [thawD, hc] at k
            cases ht : thaw j μ with
            | none => rw [ht] at k; exact k.elim
            | some p =>
              obtain ⟨d2, μ2⟩ := p
              rw [ht] at k
              simp only at k
              obtain ⟨G', g, R', rd⟩ := R.thaw ht
              refine ⟨_, _, G', _, I, R', ?_, g, CtS.grow k g⟩
              have S2 := (S.mono g).set (rd _ ha) i
              have e : σ.set i (some (V.ref a)) = σ := by
                apply List.ext_getElem?
                intro n
                by_cases hn : i = n
                · subst hn
                  rw [List.getElem?_set_self (List.getElem?_eq_some_iff.mp hs).1, hs]
                · rw [List.getElem?_set_ne hn]
              rw [e] at S2
              exact S2
    | _ => exact ⟨env, μ, G, H, I, R, S, Grow.refl _ _, k⟩
theorem ss_frz {i : Nat} {b : CS} {sts : List Stmt} (hb : PSs X sts (tS q W b)) : PSs X sts (tS q W (.seq (.frz i) b)) := by
  refine ⟨fun pins s σ H D I ⟨env, μ, ι, G, R, S, k⟩ => ?_⟩
  have k' : CtS q.T W ι G (match evS q.P q.call (.frz i) env μ with
    | .ok (.nx, env') μ' => evS q.P q.call b env' μ'
    | _ => .bad) D := by
    have k2 : CtS q.T W ι G (match evS q.P q.call (.frz i) env μ with
      | .ok (.nx, env') μ' => evS q.P q.call b env' μ'
      | .ok (.rt d, env') μ' => .ok (.rt d, env') μ'
      | .ok (.bk, env') μ' => .ok (.bk, env') μ'
      | .ok (.ct, env') μ' => .ok (.ct, env') μ'
      | .ex x μ' => .ex x μ'
      | .bad => .bad) D := k
    have hev : evS q.P q.call (.frz i) env μ = (match getV env i with
      | some (.cell j) => match thawD j μ with
        | some (d, μ') => .ok (.nx, env.set i (some d)) μ'
        | none => .bad
      | some _ => .ok (.nx, env) μ
      | none => .bad) := rfl
    rw [hev] at k2 ⊢
    split at k2 <;> rename_i e <;> split at e <;> first | (split at e <;> first | (cases e <;> exact k2) | cases e) | (cases e <;> exact k2) | cases e
  obtain ⟨env', μ', G', H', I', R', S', g, k3⟩ := frz_run I R S k'
  exact hb.run pins s σ H' D I' ⟨env', μ', ι, G', R', S', k3⟩
end Co

set_option linter.all false
set_option maxRecDepth 100000
set_option Elab.async false
/-! Co23: loops. -/
namespace Co
open PySem L2
variable {q : Cq} {sc : Scope} {N : List Str} {W : WX} {X : Cx}
/-- behind a turn -/
theorem turn_end {T : Nam} {ι ι2 : List Addr} {G G2 H0 H : Hp} {μ0 μ2 : Store} {env2 : Env} {σ : L2.St} {clr : List Nat} {k : Env → Store → RS} {Z : Ends} (R0 : RelH T ι G μ0 H0) (g : Grow ι ι2 G G2) (R : RelH T ι2 G2 μ2 H) (S : RelS T ι2 G2 env2 σ)
    (c : CtS T W ι G (turnEnd μ0.length μ0 clr env2 μ2 k) Z) : ∃ (ι3 : List Addr) (μ3 : Store) (env3 : Env), Grow ι ι3 G G2 ∧ RelH T ι3 G2 μ3 H ∧ RelS T ι3 G2 env3 σ ∧ CtS T W ι3 G2 (k env3 μ3) Z := by
  unfold turnEnd at c
  simp only at c
  have S1 := S.wipeE clr
  split at c
  · rename_i h
    rw [Bool.and_eq_true] at h
    obtain ⟨g2, R2⟩ := R0.leave g R h.2
    exact ⟨_, _, _, g2, R2, S1.back h.1, CtS.grow c g2⟩
  · exact ⟨_, _, _, g, R, S1, CtS.grow c g⟩
theorem for_turns {k : ITK} {b : CS} {tg : TGT} {clr : List Nat} {env0 : Env} {ds xs : List D} {μ1 : Store} {σ0 : L2.St} {ι : List Addr} {G H1 : Hp} {J : It} {Z : Ends} (R : RelH q.T ι G μ1 H1) (S : RelS q.T ι G env0 σ0)
    (hJ : ItD q.T J ι G k ds xs (tagOf μ1 ds)) (hc : CtS q.T W ι G (forL (evS q.P q.call b) tg (stayB μ1 k ds xs) clr xs env0 μ1) Z) :
    ∃ W' : Nat → Nat → L2.St → Hp → Prop, (∃ m, W' 0 m σ0 H1) ∧ ∀ i m σ H, W' i m σ H →
      (J.stop i H ∧ Z.nx σ H) ∨ (J.go i H ∧ ∃ N : L2.St → Hp → Prop, (∀ σ' H', N σ' H' → ∃ m', m' < m ∧ W' (i + 1) m' σ' H') ∧ ∀ x H', J.yld i H x H' → tG q.T tg x σ H' fun σ2 H2 => tS q W b { Z with nx := N, ct := N, bk := Z.nx } σ2 H2) := by
  refine ⟨fun i m σ H => m = xs.length - i ∧ i ≤ xs.length ∧ ∃ (ι' : List Addr) (G' : Hp) (μ' : Store) (env : Env), Grow ι ι' G G' ∧ RelH q.T ι' G' μ' H ∧ RelS q.T ι' G' env σ ∧
    CtS q.T W ι' G' (forL (evS q.P q.call b) tg (stayB μ1 k ds xs) clr (xs.drop i) env μ') Z, ⟨_, rfl, Nat.zero_le _, _, _, _, _, Grow.refl _ _, R, S, hc⟩, ?_⟩
  rintro i m σ H ⟨rfl, hle, ι', G', μ', env, gJ, R', S', cc⟩
  by_cases hlt : i < xs.length
  · have hd : xs.drop i = xs[i] :: xs.drop (i + 1) := List.drop_eq_getElem_cons hlt
    rw [hd] at cc
    unfold forL at cc
    split at cc
    · rename_i hst
      unfold stayB at hst
      rw [Bool.and_eq_true, decide_eq_true_eq, beq_iff_eq] at hst
      refine .inr ⟨hJ.go gJ R' hst.1 hst.2 hlt, fun σ' H' => xs.length - (i + 1) = xs.length - (i + 1) ∧ i + 1 ≤ xs.length ∧ ∃ (ι' : List Addr) (G' : Hp) (μ' : Store) (env : Env), Grow ι ι' G G' ∧ RelH q.T ι' G' μ' H' ∧ RelS q.T ι' G' env σ' ∧
        CtS q.T W ι' G' (forL (evS q.P q.call b) tg (stayB μ1 k ds xs) clr (xs.drop (i + 1)) env μ') Z, fun σ' H' h => ⟨_, by omega, h⟩, fun v H' hy => ?_⟩
      obtain ⟨d, G2, hd2, g2, R2, rd⟩ := hJ.yld gJ R' hst.1 hst.2 hlt hy
      rw [List.getElem?_eq_getElem hlt] at hd2
      cases hd2
      split at cc
      · exact cc.elim
      · rename_i env' ha
        refine ⟨ι', G2, μ', env, env', _, R2, S'.mono g2, rd, ha, fun σ' S2 _ _ => ⟨env', μ', ι', G2, R2, S2, ?_⟩⟩
        have cc := CtS.grow cc g2
        have next : ∀ (env2 : Env) (μ2 : Store), CtS q.T W ι' G2 (turnEnd μ'.length μ' clr env2 μ2 (forL (evS q.P q.call b) tg (stayB μ1 k ds xs) clr (xs.drop (i + 1)))) Z → ∀ (σ2 : L2.St) (ι2 : List Addr) (G3 H3 : Hp), Grow ι' ι2 G2 G3 → RelH q.T ι2 G3 μ2 H3 → RelS q.T ι2 G3 env2 σ2 →
            xs.length - (i + 1) = xs.length - (i + 1) ∧ i + 1 ≤ xs.length ∧ ∃ (ι' : List Addr) (G' : Hp) (μ' : Store) (env : Env), Grow ι ι' G G' ∧ RelH q.T ι' G' μ' H3 ∧ RelS q.T ι' G' env σ2 ∧
              CtS q.T W ι' G' (forL (evS q.P q.call b) tg (stayB μ1 k ds xs) clr (xs.drop (i + 1)) env μ') Z := fun env2 μ2 c σ2 ι2 G3 H3 g3 R3 S3 => by
          obtain ⟨ι4, μ4, env4, g4, R4, S4, c4⟩ := turn_end (H0 := H') R2 g3 R3 S3 c
          exact ⟨rfl, hlt, ι4, _, μ4, env4, (gJ.trans g2).trans g4, R4, S4, c4⟩
        cases eb : evS q.P q.call b env' μ' with
        | bad => rw [eb] at cc; exact cc
        | ex y μ2 => rw [eb] at cc; exact cc
        | ok p μ2 =>
          obtain ⟨sg, env2⟩ := p
          rw [eb] at cc
          cases sg with
          | nx => exact next env2 μ2 cc
          | ct => exact next env2 μ2 cc
          | bk => exact cc
          | rt d => exact cc
    · exact cc.elim
  · have e : i = xs.length := by omega
    subst e
    rw [List.drop_length] at cc
    unfold forL at cc
    split at cc
    · rename_i hst
      unfold stayB at hst
      rw [Bool.and_eq_true, decide_eq_true_eq, beq_iff_eq] at hst
      exact .inl ⟨hJ.stop gJ R' hst.1 hst.2 (Nat.le_refl _), cc σ ι' G' H (Grow.refl _ _) R' S'⟩
    · exact cc.elim
theorem for_core {k : ITK} {it : CE} {b : CS} {tg : TGT} {clr : List Nat} {env : Env} {μ : Store} {σ : L2.St} {ι : List Addr} {G H : Hp} {Z : Ends} (R : RelH q.T ι G μ H) (S : RelS q.T ι G env σ)
    (hc : match evA q.P q.call it env μ with
      | .ok ds μ1 => walkedC μ1 k ds = none ∧ CtS q.T W ι G (forS (evS q.P q.call b) tg k ds clr env μ1) Z
      | .ex y μ1 => CtS q.T W ι G (.ex (y, env) μ1) Z
      | .bad => False) : tFor (tI q W k it) (tG q.T tg) (tS q W b) Z σ H := by
  refine ⟨env, μ, ι, G, R, S, ?_⟩
  cases ea : evA q.P q.call it env μ with
  | bad => rw [ea] at hc; exact hc
  | ex y μ1 => rw [ea] at hc; exact fun cls dd ι' G' H g R rx => hc cls dd σ ι' G' H g R (S.mono g) rx
  | ok ds μ1 =>
    rw [ea] at hc
    obtain ⟨hw, hc⟩ := hc
    unfold forS at hc
    cases hx : itemsOf μ1 k ds with
    | none => rw [hx] at hc; exact hc.elim
    | some xs =>
      rw [hx] at hc
      simp only at hc
      exact ⟨xs, hx, hw, fun ι1 G1 H1 J g1 R1 hJ => for_turns R1 (S.mono g1) hJ (CtS.grow hc g1)⟩
theorem ss_for (s : SOk q sc N W X) {k : ITK} {it : CE} {b : CS} {tg : TGT} {clr : List Nat} {tge iter : Expr} {body : List Stmt} {pos : Pos} (hi : PI X tge iter (tI q W k it)) (hp : plE iter = true) (hG : okG N sc true tg tge = true) (hb : PSs X body (tS q W b)) :
    PS X (.For tge iter body [] pos) (tS q W (.for k it tg b clr)) := by
  have rule : PS X (.For tge iter body [] pos) (tFor (tI q W k it) (tG q.T tg) (tS q W b)) := ps_for s.po s.x.calm hi (pg_ok s.g hG) hb (pl_fold hp X.env)
  refine PS.dyn fun Z σ H ⟨env, μ, ι, G, R, S, hc⟩ => ?_
  have c' : CtS q.T W ι G (match evA q.P q.call it env μ with
    | .ok ds μ => match walkedC μ k ds with
      | none => forS (evS q.P q.call b) tg k ds clr env μ
      | some w => if pathE it then unlkS w (forS (evS q.P q.call b) tg k ds clr env (lockC w μ)) else .bad
    | .ex x μ => .ex (x, env) μ
    | .bad => .bad) Z := hc
  cases ea : evA q.P q.call it env μ with
  | bad => rw [ea] at c'; exact c'.elim
  | ex y μ1 =>
    rw [ea] at c'
    exact ⟨_, rule, for_core (clr := clr) R S (by rw [ea]; exact c')⟩
  | ok ds μ1 =>
    rw [ea] at c'
    simp only at c'
    cases hw : walkedC μ1 k ds with
    | none =>
      rw [hw] at c'
      exact ⟨_, rule, for_core (clr := clr) R S (by rw [ea]; exact ⟨hw, c'⟩)⟩
    | some w =>
      rw [hw] at c'
      simp only at c'
      split at c'
      · rename_i hp
        obtain ⟨rfl, hd⟩ := walked_at hw
        obtain rfl := (path_same hp).2 _ _ ea
        have hl := ((path_lock hd hp).2 _ _ ea).2
        obtain ⟨a, ha⟩ := R.addr hd
        obtain ⟨u, hu, mu, hn, lk⟩ := R.lock hd ha
        refine ⟨_, ps_lock rule, a, u, hu, mu, fun od => ?_⟩
        obtain ⟨gl, Rl⟩ := lk od
        refine for_core (clr := clr) Rl (S.mono gl) ?_
        have hl' : evA q.P q.call it env (lockC w μ1) = .ok [.cell w.1] (lockC w μ1) := hl
        have : (μ1.set w.1 (.ldic w.2.1 w.2.2)) = lockC w μ1 := rfl
        rw [this, hl']
        refine ⟨walked_lock hw, ?_⟩
        cases hr : forS (evS q.P q.call b) tg k [.cell w.1] clr env (lockC w μ1) with
        | bad => rw [hr] at c'; exact c'
        | ex y μ2 => rw [hr] at c'; exact c'.elim
        | ok p μ2 =>
          obtain ⟨sg, env2⟩ := p
          rw [hr] at c'
          cases sg with
          | nx =>
            intro σ2 ι2 G2 H2 g2 R2 S2
            obtain ⟨h1, h2, h3⟩ := R.unlock hd ha hu g2 R2
            exact ⟨h1, c' σ2 ι2 _ _ h2 h3 (S2.outk (g2.ex _ _ upd_same))⟩
          | bk =>
            intro σ2 ι2 G2 H2 g2 R2 S2
            obtain ⟨h1, h2, h3⟩ := R.unlock hd ha hu g2 R2
            exact ⟨h1, c' σ2 ι2 _ _ h2 h3 (S2.outk (g2.ex _ _ upd_same))⟩
          | ct =>
            intro σ2 ι2 G2 H2 g2 R2 S2
            obtain ⟨h1, h2, h3⟩ := R.unlock hd ha hu g2 R2
            exact ⟨h1, c' σ2 ι2 _ _ h2 h3 (S2.outk (g2.ex _ _ upd_same))⟩
          | rt d =>
            intro v ι2 G2 H2 g2 R2 rv
            obtain ⟨h1, h2, h3⟩ := R.unlock hd ha hu g2 R2
            exact ⟨h1, c' v ι2 _ _ h2 h3 (rv.outk (g2.ex _ _ upd_same))⟩
      · exact c'.elim
theorem ss_while (s : SOk q sc N W X) {c : CE} {b : CS} {clr : List Nat} {e : Expr} {body : List Stmt} {pos : Pos} (he : PT X e (tT q W c)) (hb : PSs X body (tS q W b)) : PS X (.While e body [] pos) (tS q W (.while c b clr)) := by
  refine PS.dyn fun Z σ0 H0 ⟨env0, μ0, ι0, G0, R0, S0, hc⟩ => ⟨_, ps_while s.po he hb, ?_⟩
  have hc' : CtS q.T W ι0 G0 (whileL (evE q.P q.call c) (evS q.P q.call b) clr q.P.fuel env0 μ0) Z := hc
  refine ⟨fun m σ H => ∃ (ι : List Addr) (G : Hp) (μ : Store) (env : Env), RelH q.T ι G μ H ∧ RelS q.T ι G env σ ∧ CtS q.T W ι G (whileL (evE q.P q.call c) (evS q.P q.call b) clr m env μ) Z, ⟨q.P.fuel, ι0, G0, μ0, env0, R0, S0, hc'⟩, ?_⟩
  rintro m σ H ⟨ι, G, μ, env, R, S, k⟩
  cases m with
  | zero => exact k.elim
  | succ m =>
    have k' : CtS q.T W ι G (Co.lift env (evE q.P q.call c env μ) fun d μ1 => match truth μ1 d with
      | none => .bad
      | some false => .ok (.nx, env) μ1
      | some true => match evS q.P q.call b env μ1 with
        | .ok (.nx, env2) μ2 => turnEnd μ.length μ clr env2 μ2 (whileL (evE q.P q.call c) (evS q.P q.call b) clr m)
        | .ok (.ct, env2) μ2 => turnEnd μ.length μ clr env2 μ2 (whileL (evE q.P q.call c) (evS q.P q.call b) clr m)
        | .ok (.bk, env2) μ2 => .ok (.nx, env2) μ2
        | .ok (.rt d, env2) μ2 => .ok (.rt d, env2) μ2
        | .ex x μ2 => .ex x μ2
        | .bad => .bad) Z := k
    refine ⟨env, μ, ι, G, R, S, ?_⟩
    cases ee : evE q.P q.call c env μ with
    | bad => rw [ee] at k'; exact k'
    | ex y μ1 => rw [ee] at k'; exact fun cls dd ι' G' H g R rx => k' cls dd σ ι' G' H g R (S.mono g) rx
    | ok d μ1 =>
      rw [ee] at k'
      rw [lift_ok] at k'
      unfold bOf
      rw [Res.bind_ok]
      cases ht : truth μ1 d with
      | none => rw [ht] at k'; exact k'.elim
      | some t =>
        rw [ht] at k'
        intro t' ι1 G1 H1 g R1 e
        have e : t' = t := e
        subst e
        cases t' with
        | false => exact k' σ ι1 G1 H1 g R1 (S.mono g)
        | true =>
          refine ⟨fun σ' H' => ∃ (ι : List Addr) (G : Hp) (μ : Store) (env : Env), RelH q.T ι G μ H' ∧ RelS q.T ι G env σ' ∧ CtS q.T W ι G (whileL (evE q.P q.call c) (evS q.P q.call b) clr m env μ) Z, fun σ' H' h => ⟨m, Nat.lt_succ_self m, h⟩, env, μ1, ι1, G1, R1, S.mono g, ?_⟩
          simp only at k'
          have next : ∀ (env2 : Env) (μ2 : Store), CtS q.T W ι G (turnEnd μ.length μ clr env2 μ2 (whileL (evE q.P q.call c) (evS q.P q.call b) clr m)) Z → ∀ (σ2 : L2.St) (ι2 : List Addr) (G3 H3 : Hp), Grow ι1 ι2 G1 G3 → RelH q.T ι2 G3 μ2 H3 → RelS q.T ι2 G3 env2 σ2 →
              ∃ (ι : List Addr) (G : Hp) (μ : Store) (env : Env), RelH q.T ι G μ H3 ∧ RelS q.T ι G env σ2 ∧ CtS q.T W ι G (whileL (evE q.P q.call c) (evS q.P q.call b) clr m env μ) Z := fun env2 μ2 cx σ2 ι2 G3 H3 g3 R3 S3 => by
            obtain ⟨ι4, μ4, env4, g4, R4, S4, c4⟩ := turn_end (H0 := H) R (g.trans g3) R3 S3 cx
            exact ⟨ι4, _, μ4, env4, R4, S4, c4⟩
          cases eb : evS q.P q.call b env μ1 with
          | bad => rw [eb] at k'; exact k'
          | ex y μ2 =>
            rw [eb] at k'
            exact fun cls dd σ' ι' G' H' g2 => k' cls dd σ' ι' G' H' (g.trans g2)
          | ok p μ2 =>
            obtain ⟨sg, env2⟩ := p
            rw [eb] at k'
            cases sg with
            | nx => exact next env2 μ2 k'
            | ct => exact next env2 μ2 k'
            | bk => exact fun σ' ι' G' H' g2 => k' σ' ι' G' H' (g.trans g2)
            | rt d => exact fun v ι' G' H' g2 => k' v ι' G' H' (g.trans g2)
end Co

set_option linter.all false
set_option maxRecDepth 100000
set_option Elab.async false
/-! Co24: stores into fields, lists and dicts. -/
namespace Co
open PySem L2
variable {q : Cq} {sc : Scope} {N : List Str} {W : WX} {X : Cx}
theorem RepF.put {T : Nam} {ι : List Addr} {G : Hp} (inj : ∀ f g, T.fN f = T.fN g → f = g) {f : Nat} {w : V} {x : D} (hx : RepD T ι G w x) : ∀ {v : List (Str × V)} {d : List (Nat × D)}, RepF T ι G v d → RepF T ι G (putF (T.fN f) w v) (fput d f x)
  | _, _, .nil => .cons hx .nil
  | _, _, .cons (f := g) h r => by
    unfold putF fput
    by_cases e : g = f
    · subst e
      rw [if_pos rfl, if_pos rfl]
      exact .cons hx r
    · rw [if_neg fun z => e (inj _ _ z), if_neg e]
      exact .cons h (RepF.put inj hx r)
theorem ss_sfld (x : XOk q sc N W X) {o c : CE} {f : Nat} {oe e : Expr} {p2 pos : Pos} (hp : plE e = true) (hcmp : isComp e = false) (ho : PE X oe (tE q W o)) (he : PE X e (tE q W c)) : PS X (.Assign [.Attribute oe (q.T.fN f) p2] e pos) (tS q W (.sfld o f c)) := by
  refine PS.dyn fun Z σ H ⟨env, μ, ι, G, R, S, k⟩ => ⟨_, ps_fld ho he (pl_swap hp hcmp _ _ _), env, μ, ι, G, R, S, ?_⟩
  have k' : CtS q.T W ι G (Co.lift env (evE q.P q.call c env μ) fun v μ => Co.lift env (evE q.P q.call o env μ) fun d μ => match setFld q.P.fok μ d f v with
    | some μ' => .ok (.nx, env) μ'
    | none => .bad) Z := k
  refine k'.lift S fun d μ1 v ι1 G1 H1 _ g r rv k1 => ⟨env, μ1, ι1, G1, r, S.mono g, k1.lift (S.mono g) fun d2 μ2 v2 ι2 G2 H2 _ g2 r2 rv2 k2 => ?_⟩
  cases d2 with
  | cell i => cases rv2 with
    | cell ha =>
      rename_i a
      cases hc : μ2[i]? with
      | none => simp only [setFld, hc] at k2; exact k2.elim
      | some cl => cases cl with
        | ins kc fs =>
          simp only [setFld, hc] at k2
          cases hb : fokB q.P.fok kc f && decide (fs.length < 900) with
          | false => rw [hb] at k2; exact k2.elim
          | true =>
            rw [hb] at k2
            rw [Bool.and_eq_true, decide_eq_true_eq] at hb
            cases r2.cel i a _ ha hc with
            | ins h1 h2 h3 =>
              obtain ⟨e1, e2⟩ := x.lk.at_ kc f hb.1
              have hl := h3.length
              refine ⟨a, _, _, _, rfl, h2, by rw [x.eK]; exact e1, by rw [x.eK]; exact e2, by omega, ?_⟩
              exact k2 σ ι2 G2 _ (Grow.refl _ _) (r2.write ha hc rfl (.ins h1 upd_same (h3.put x.lk.inj (rv.mono g2)))) ((S.mono g).mono g2)
        | _ => simp only [setFld, hc] at k2; exact k2.elim
  | _ => exact k2.elim
theorem ss_sidx (x : XOk q sc N W X) {o i c : CE} {oe ie e : Expr} {p2 pos : Pos} (hp : plE e = true) (hcmp : isComp e = false) (hpi : plE ie = true) (ho : PE X oe (tE q W o)) (hi : PE X ie (tE q W i)) (he : PE X e (tE q W c)) : PS X (.Assign [.Subscript oe ie p2] e pos) (tS q W (.sidx o i c)) := by
  have asub : ∀ v, assign (.Subscript oe ie p2) X.env v = (do
      let ov ← holding [v] (eval oe X.env)
      let iv ← holding [v, ov] (eval ie X.env)
      standAt p2
      holding [v, ov, iv] (setItem ov iv v)
      release [v, ov, iv] []) := fun v => by
    cases ie <;> first | rfl | exact Bool.noConfusion hpi
  have hs : swapsWithSole [.Subscript oe ie p2] e pos.line X.env = pure false := by
    unfold swapsWithSole
    exact pl_swap hp hcmp _ _ _
  have ruleL : PS X (.Assign [.Subscript oe ie p2] e pos) (tAsg (tE q W c) (gSub (tE q W o) (tE q W i) rSetL)) := ps_asg he (pg_sub ho hi set_list asub) hs
  have ruleD : PS X (.Assign [.Subscript oe ie p2] e pos) (sDPut (tE q W o) (tE q W i) (tE q W c)) := ps_dput x.hu1 ho hi he (pl_swap hp hcmp _ _ _)
  refine PS.dyn fun Z σ H ⟨env, μ, ι, G, R, S, k⟩ => ?_
  have k' : CtS q.T W ι G (Co.lift env (evE q.P q.call c env μ) fun v μ => Co.lift env (evE q.P q.call o env μ) fun d μ => Co.lift env (evE q.P q.call i env μ) fun kx μ => match setIx μ d kx v with
    | some μ' => .ok (.nx, env) μ'
    | none => .bad) Z := k
  -- which rule: by what stands there
  have dict : (∀ v μ1 d μ2 kx μ3, evE q.P q.call c env μ = .ok v μ1 → evE q.P q.call o env μ1 = .ok d μ2 → evE q.P q.call i env μ2 = .ok kx μ3 → ∃ ci t kvs, d = .cell ci ∧ μ3[ci]? = some (.dic t kvs)) → sDPut (tE q W o) (tE q W i) (tE q W c) Z σ H := fun hd =>
    ⟨env, μ, ι, G, R, S, k'.lift S fun v μ1 vv ι1 G1 H1 e1 g1 r1 rv k1 => ⟨env, μ1, ι1, G1, r1, S.mono g1, k1.lift (S.mono g1) fun d μ2 vd ι2 G2 H2 e2 g2 r2 rd k2 => ⟨env, μ2, ι2, G2, r2, (S.mono g1).mono g2, k2.lift ((S.mono g1).mono g2) fun kx μ3 vk ι3 G3 H3 e3 g3 r3 rk k3 => by
      obtain ⟨ci, t, kvs, rfl, hc⟩ := hd _ _ _ _ _ _ e1 e2 e3
      cases rd with
      | cell ha =>
        rename_i a
        have ha3 := g3.ix _ _ ha
        simp only [setIx, hc] at k3
        cases hb : keyB t kx && sz (kvs.length + 1) with
        | false => rw [hb] at k3; exact k3.elim
        | true =>
          rw [hb] at k3
          rw [Bool.and_eq_true] at hb
          have hz := flip_len hb.2
          cases r3.cel ci a _ ha3 hc with
          | dicK h1 h2 h3 =>
            obtain ⟨kk, e1, e2, hkk⟩ := key_of rk hb.1
            subst e1
            subst e2
            have hl := h3.length
            refine ⟨a, _, rfl, .inl ⟨_, kk, h2, rfl, by omega, rfl⟩, k3 σ ι3 G3 _ (Grow.refl _ _) (r3.write ha3 hc rfl (.dicK h1 upd_same (h3.put kk hkk (rv.mono (g2.trans g3))))) (((S.mono g1).mono g2).mono g3)⟩
          | dicT h1 h2 h3 =>
            have hl := h3.length
            have hkt : ∃ ks, kx = .tup ks ∧ ks.all D.isKey = true := by
              cases kx with
              | tup ks => exact ⟨ks, rfl, hb.1⟩
              | _ => exact absurd hb.1 (by simp [keyB])
            obtain ⟨ks, rfl, hk⟩ := hkt
            cases rk with
            | tup et lt =>
              obtain ⟨kk, e1, e2, hkk⟩ := keys_of lt hk
              subst e1
              subst e2
              refine ⟨a, _, rfl, .inr ⟨_, kk, _, h2, rfl, r3.fz.tup et, by omega, rfl⟩, k3 σ ι3 G3 _ (Grow.refl _ _) (r3.write ha3 hc rfl (.dicT h1 upd_same (h3.put kk hkk (rv.mono (g2.trans g3))))) (((S.mono g1).mono g2).mono g3)⟩⟩⟩⟩
  have list : (∀ v μ1 d μ2 kx μ3, evE q.P q.call c env μ = .ok v μ1 → evE q.P q.call o env μ1 = .ok d μ2 → evE q.P q.call i env μ2 = .ok kx μ3 → ∃ ci xs, d = .cell ci ∧ μ3[ci]? = some (.lst xs)) → tAsg (tE q W c) (gSub (tE q W o) (tE q W i) rSetL) Z σ H := fun hd =>
    ⟨env, μ, ι, G, R, S, k'.lift S fun v μ1 vv ι1 G1 H1 e1 g1 r1 rv k1 => ⟨env, μ1, ι1, G1, r1, S.mono g1, k1.lift (S.mono g1) fun d μ2 vd ι2 G2 H2 e2 g2 r2 rd k2 => ⟨env, μ2, ι2, G2, r2, (S.mono g1).mono g2, k2.lift ((S.mono g1).mono g2) fun kx μ3 vk ι3 G3 H3 e3 g3 r3 rk k3 => by
      obtain ⟨ci, xs, rfl, hc⟩ := hd _ _ _ _ _ _ e1 e2 e3
      cases rd with
      | cell ha =>
        rename_i a
        have ha3 := g3.ix _ _ ha
        simp only [setIx, hc] at k3
        cases rk with
        | int j =>
          simp only at k3
          cases hj : ixN xs.length j with
          | none => rw [hj] at k3; exact k3.elim
          | some n =>
            rw [hj] at k3
            cases r3.cel ci a _ ha3 hc with
            | lst h1 h2 h3 =>
              refine ⟨a, _, j, n, rfl, rfl, h2, by rw [h3.length]; exact hj, k3 σ ι3 G3 _ (Grow.refl _ _) (r3.write ha3 hc rfl (.lst h1 upd_same (h3.set (rv.mono (g2.trans g3)) n))) (((S.mono g1).mono g2).mono g3)⟩
        | _ => exact k3.elim⟩⟩⟩
  cases e1 : evE q.P q.call c env μ with
  | bad => rw [e1] at k'; exact k'.elim
  | ex y μ1 => exact ⟨_, ruleD, dict fun v μ1 d μ2 kx μ3 z => by rw [e1] at z; cases z⟩
  | ok v μ1 => cases e2 : evE q.P q.call o env μ1 with
    | bad => rw [e1, lift_ok, e2] at k'; exact k'.elim
    | ex y μ2 => exact ⟨_, ruleD, dict fun v μ1 d μ2 kx μ3 z z2 => by rw [e1] at z; cases z; rw [e2] at z2; cases z2⟩
    | ok d μ2 => cases e3 : evE q.P q.call i env μ2 with
      | bad => rw [e1, lift_ok, e2, lift_ok, e3] at k'; exact k'.elim
      | ex y μ2 => exact ⟨_, ruleD, dict fun v μ1 d μ2 kx μ3 z z2 z3 => by rw [e1] at z; cases z; rw [e2] at z2; cases z2; rw [e3] at z3; cases z3⟩
      | ok kx μ3 =>
        rw [e1, lift_ok, e2, lift_ok, e3, lift_ok] at k'
        cases d with
        | cell ci =>
          cases hc : μ3[ci]? with
          | none => simp only [setIx, hc] at k'; exact k'.elim
          | some cl => cases cl with
            | dic t kvs => exact ⟨_, ruleD, dict fun v μ1 d μ2 kx μ3 z z2 z3 => by rw [e1] at z; cases z; rw [e2] at z2; cases z2; rw [e3] at z3; cases z3; exact ⟨ci, t, kvs, rfl, hc⟩⟩
            | lst xs => exact ⟨_, ruleL, list fun v μ1 d μ2 kx μ3 z z2 z3 => by rw [e1] at z; cases z; rw [e2] at z2; cases z2; rw [e3] at z3; cases z3; exact ⟨ci, xs, rfl, hc⟩⟩
            | _ => simp only [setIx, hc] at k'; exact k'.elim
        | _ => exact k'.elim
def augOp : BinO → Option (Operator × (Int → Int → Int))
  | .add => some (.Add, fun i j => i + j)
  | .sub => some (.Sub, fun i j => i - j)
  | _ => none
theorem ss_aug (s : SOk q sc N W X) {i : Nat} {o : BinO} {c : CE} {y : Str} {op : Operator} {f : Int → Int → Int} {e : Expr} {p2 pos : Pos} (ho : augOp o = some (op, f)) (hN : N[i]? = some y) (hl : sc.names.lookup y = some .local ∨ sc.names.lookup y = some .cell) (he : PE X e (tE q W c)) :
    PS X (.AugAssign (.Name y p2) op e pos) (tS q W (.aug i o c)) := by
  have rule : ∀ ti, PIp X op ti → PS X (.AugAssign (.Name y p2) op e pos) (tAug i (tE q W c) ti) := fun ti h => ps_aug (by rw [s.x.eN]; exact s.x.nd) (by rw [s.x.eN]; exact hN) (by unfold L2.Loc; rw [s.x.eS]; exact hl) he h (.inl (s.fnl y))
  have hop : PIp X op (ipI f) ∧ ∀ μ a b, binS μ o (.int a) (.int b) = .ok (.int (f a b)) μ := by
    cases o <;> first | cases ho | skip
    · exact ⟨ip_add, fun _ _ _ => rfl⟩
    · exact ⟨ip_sub, fun _ _ _ => rfl⟩
  refine PS.dyn fun Z σ H ⟨env, μ, ι, G, R, S, k⟩ => ⟨_, rule _ hop.1, ?_⟩
  have k' : CtS q.T W ι G (match getV env i with
    | none => .bad
    | some x => Co.lift env (evE q.P q.call c env μ) fun y μ => match x, y with
      | .int _, .int _ => Co.lift env (binS μ o x y) fun z μ => .ok (.nx, env.set i (some z)) μ
      | _, _ => .bad) Z := k
  cases hv : getV env i with
  | none => rw [hv] at k'; exact k'.elim
  | some d =>
    rw [hv] at k'
    obtain ⟨v, hs, hr⟩ := S.at_ i d (getV_some hv)
    refine ⟨v, hs, env, μ, ι, G, R, S, k'.lift S fun d2 μ1 v2 ι1 G1 H1 _ g r rv k1 => ?_⟩
    cases hr with
    | int a => cases rv with
      | int b =>
        simp only at k1
        rw [hop.2, lift_ok] at k1
        exact ⟨a, b, rfl, rfl, k1 _ ι1 G1 H1 (Grow.refl _ _) r ((S.mono g).set (.int (f a b)) i)⟩
      | _ => exact k1.elim
    | _ => cases rv <;> exact k1.elim
end Co

set_option linter.all false
set_option maxRecDepth 100000
set_option Elab.async false
/-! Co25: what is checked of a statement; every statement that passes is told by the evaluator. -/
namespace Co
open PySem L2
variable {q : Cq} {N : List Str}
/-! ### try, where nothing is raised within -/
theorem SOk.nox {sc : Scope} {W : WX} {X : Cx} (s : SOk q sc N W X) : SOk q sc N W0 X.nox where
  x := { eK := s.x.eK, eS := s.x.eS, eN := s.x.eN, nd := s.x.nd, calm := s.x.calm, room := s.x.room, tk := takes0, lk := s.x.lk, fns := fun f h => ⟨(s.x.fns f h).ex⟩ }
  po := PassesOwn.never
  fnl := s.fnl
theorem ss_try {W : WX} {X : Cx} {b h els : CS} {cs : List Nat} {nm : Option Nat} {body orelse : List Stmt} {h₀ : ExceptHandler} {hs : List ExceptHandler} {pos : Pos} (hb : PSs X.nox body (tS q W0 b)) (ho : PSs X orelse (tS q W els)) :
    PS X (.Try body (h₀ :: hs) orelse [] pos) (tS q W (.try b cs nm h els)) := by
  refine PS.dyn fun Z σ H ⟨env, μ, ι, G, R, S, k⟩ => ⟨_, ps_try_thru hb ho, env, μ, ι, G, R, S, ?_⟩
  have k' : CtS q.T W ι G (match evS q.P q.call b env μ with
    | .ok (.nx, env') μ' => evS q.P q.call els env' μ'
    | .ok (.rt d, env') μ' => .ok (.rt d, env') μ'
    | .ok (.bk, env') μ' => .ok (.bk, env') μ'
    | .ok (.ct, env') μ' => .ok (.ct, env') μ'
    | .ex _ _ => .bad
    | .bad => .bad) Z := k
  cases eb : evS q.P q.call b env μ with
  | bad => rw [eb] at k'; exact k'
  | ex y μ1 => rw [eb] at k'; exact k'.elim
  | ok p μ1 =>
    obtain ⟨sg, env2⟩ := p
    rw [eb] at k'
    cases sg with
    | nx => exact fun σ' ι1 G1 H1 g r s => ⟨env2, μ1, ι1, G1, r, s, CtS.grow k' g⟩
    | rt d => exact k'
    | bk => exact k'
    | ct => exact k'
/-! ### a comprehension stored -/
def swB (sc : Scope) (tge e : Expr) : Bool := match tge, e with
  | .Name y py, .ListComp _ _ scope pos => (match sc.kind with
    | .function => true
    | _ => false) && decide (sc.names.lookup y = some .local) && (py.line == pos.line) && !(scope.names.any fun (n, k) => n == y && (k == .local || k == .cell))
  | _, _ => false
theorem ss_asgLc {sc : Scope} {W : WX} {X : Cx} (x : XOk q sc N W X) {k : ITK} {fz : Bool} {it c e : CE} {tg : TGT} {elt tge iter : Expr} {ifs : List Expr} {scope : Scope} {own : List (Str × Nat)} {pos spos : Pos} {i : Nat} {tgx : Expr}
    (l : LcOk q sc N W X k it tg c e elt tge iter ifs scope own) (hG : okG N sc true (.nm i) tgx = true) (hs : swB sc tgx (.ListComp elt [⟨tge, iter, ifs, 0⟩] scope pos) = true) :
    PS X (.Assign [tgx] (.ListComp elt [⟨tge, iter, ifs, 0⟩] scope pos) spos) (tS q W (.asg (.nm i) (.lc fz k it tg c e (own.map (·.2))))) := by
  cases tgx with
  | Name y py =>
    unfold swB at hs
    simp only [Bool.and_eq_true, decide_eq_true_eq, Bool.not_eq_true'] at hs
    obtain ⟨⟨⟨h1, h2⟩, h3⟩, h4⟩ := hs
    have hk : X.env.scope.kind = .function := by
      rw [x.eS]
      split at h1
      · assumption
      · cases h1
    have hN : N[i]? = some y := by
      have h' : (decide (N[i]? = some y) && (match sc.names.lookup y with
        | some .local => true
        | some .cell => true
        | _ => false)) = true := hG
      rw [Bool.and_eq_true, decide_eq_true_eq] at h'
      exact h'.1
    have rule := st_setLc (fz := fz) (pos := pos) (py := py) (spos := spos) x l hN h2 (sw_true hk (by rw [x.eS]; exact h2) h3 h4)
    refine PS.dyn fun Z σ H ⟨env, μ, ι, G, R, S, kc⟩ => ?_
    have k' : CtS q.T W ι G (Co.lift env (evE q.P q.call (.lc fz k it tg c e (own.map (·.2))) env μ) fun d μ => .ok (.nx, env.set i (some d)) μ) Z := kc
    have ct : Ct q.T W σ ι G (evE q.P q.call (.lc fz k it tg c e (own.map (·.2))) env μ) (fun v H1 => Z.nx (σ.set i (some v)) H1) :=
      k'.lift S fun d μ1 v ι1 G1 H1 _ g r rv k1 => k1 _ ι1 G1 H1 (Grow.refl _ _) r ((S.mono g).set rv i)
    rcases lc_dyn R S l.hi l.hg ct with h | h
    · exact ⟨_, rule, h⟩
    · obtain ⟨d, u, h1, h2, h3⟩ := h
      exact ⟨_, ps_lock rule, d, u, h1, h2, h3⟩
  | _ => cases hG
/-! ### the check -/
structure KS where
  s : Scope → Stmt → Bool
  l : Scope → List Stmt → Bool
def one1 (k : Scope → Stmt → Bool) : KS := ⟨k, fun sc sts => match sts with
  | [st] => k sc st
  | _ => false⟩
def isNm : Expr → Bool
  | .Name .. => true
  | _ => false
/-- a name that inner blocks read -/
def celNm (sc : Scope) : Expr → Bool
  | .Name y _ => decide (sc.names.lookup y = some .cell)
  | _ => false
def ghost : CS → Bool
  | .frz _ => true
  | .clr _ => true
  | _ => false
section
variable (q : Cq) (N : List Str)
def kAsgLc (tg : TGT) (e : CE) (sc : Scope) (st : Stmt) : Bool := match tg, e with
  | .nm i, .lc fz k it tg' c e' own => (match st with
    | .Assign [tge] ev _ => okG N sc true (.nm i) tge && okE q N (.lc fz k it tg' c e' own) false sc ev && swB sc tge ev
    | _ => false)
  | _, _ => false
def kAsg1 (tg : TGT) (e : CE) (sc : Scope) (st : Stmt) : Bool := match st with
  | .Assign [tge] ev _ => okG N sc true tg tge && plE ev && (!isComp ev || celNm sc tge) && (!isTup ev || isNm tge) && okE q N e false sc ev
  | _ => false
def cExp (e : CE) (sc : Scope) (st : Stmt) : Bool := match st with
  | .Expr ev _ => plE ev && !isComp ev && okE q N e false sc ev
  | _ => false
def nonB : CE → Bool
  | .lit .non => true
  | _ => false
def cRet (e : CE) (sc : Scope) (st : Stmt) : Bool := match st with
  | .Return (some ev) _ => okE q N e false sc ev
  | .Return none _ => nonB e
  | _ => false
def kSfl (o : CE) (f : Nat) (e : CE) (sc : Scope) (st : Stmt) : Bool := match st with
  | .Assign [.Attribute oe y _] ev _ => decide (y = q.T.fN f) && plE ev && !isComp ev && okE q N o false sc oe && okE q N e false sc ev
  | _ => false
def kSix (o i : CE) (e : CE) (sc : Scope) (st : Stmt) : Bool := match st with
  | .Assign [.Subscript oe ie _] ev _ => plE ev && !isComp ev && plE ie && okE q N o false sc oe && okE q N i false sc ie && okE q N e false sc ev
  | _ => false
def augB : BinO → Operator → Bool
  | .add, .Add => true
  | .sub, .Sub => true
  | _, _ => false
def locB (sc : Scope) (y : Str) : Bool := match sc.names.lookup y with
  | some .local => true
  | some .cell => true
  | _ => false
def kAu (i : Nat) (o : BinO) (e : CE) (sc : Scope) (st : Stmt) : Bool := match st with
  | .AugAssign (.Name y _) op ev _ => augB o op && decide (N[i]? = some y) && locB sc y && okE q N e false sc ev
  | _ => false
def kIf (c : CE) (a b : KS) (sc : Scope) (st : Stmt) : Bool := match st with
  | .If ev as bs _ => okE q N c true sc ev && a.l sc as && b.l sc bs
  | _ => false
def kFo (k : ITK) (it : CE) (tg : TGT) (b : KS) (sc : Scope) (st : Stmt) : Bool := match st with
  | .For tge iter body [] _ => cIt k (okA q N it) sc tge iter && okG N sc true tg tge && b.l sc body
  | _ => false
def kWh (c : CE) (b : KS) (sc : Scope) (st : Stmt) : Bool := match st with
  | .While ev body [] _ => okE q N c true sc ev && b.l sc body
  | _ => false
def kTry (b els : KS) (sc : Scope) (st : Stmt) : Bool := match st with
  | .Try body (_ :: _) orelse [] _ => b.l sc body && els.l sc orelse
  | _ => false
def okS : CS → KS
  | .skip => ⟨fun _ st => match st with
    | .Pass _ => true
    | _ => false, fun _ sts => match sts with
    | [] => true
    | [.Pass _] => true
    | _ => false⟩
  | .seq a b => ⟨fun _ _ => false, fun sc sts => if ghost a then (okS b).l sc sts else match sts with
    | st :: r => (okS a).s sc st && (okS b).l sc r
    | [] => false⟩
  | .asg tg e => one1 fun sc st => kAsgLc q N tg e sc st || kAsg1 q N tg e sc st
  | .exp e => one1 (cExp q N e)
  | .ret e => one1 (cRet q N e)
  | .sfld o f e => one1 (kSfl q N o f e)
  | .sidx o i e => one1 (kSix q N o i e)
  | .aug i o e => one1 (kAu q N i o e)
  | .ite c a b => one1 (kIf q N c (okS a) (okS b))
  | .for k it tg b _ => one1 (kFo q N k it tg (okS b))
  | .while c b _ => one1 (kWh q N c (okS b))
  | .brk => one1 fun _ st => match st with
    | .Break _ => true
    | _ => false
  | .cnt => one1 fun _ st => match st with
    | .Continue _ => true
    | _ => false
  | .raise _ _ => one1 fun _ _ => true
  | .try b _ _ _ els => one1 (kTry (okS b) (okS els))
  | .clr _ => ⟨fun _ _ => false, fun _ sts => sts.isEmpty⟩
  | _ => ⟨fun _ _ => false, fun _ _ => false⟩
end
structure SndS (q : Cq) (N : List Str) (k : KS) (c : CS) : Prop where
  s : ∀ sc st, k.s sc st = true → ∀ W X, SOk q sc N W X → PS X st (tS q W c)
  l : ∀ sc sts, k.l sc sts = true → ∀ W X, SOk q sc N W X → PSs X sts (tS q W c)
theorem snd_one {k : Scope → Stmt → Bool} {c : CS} (h : ∀ sc st, k sc st = true → ∀ W X, SOk q sc N W X → PS X st (tS q W c)) : SndS q N (one1 k) c := by
  refine ⟨h, fun sc sts hl W X s => ?_⟩
  unfold one1 at hl
  simp only at hl
  split at hl
  · exact ss_one (h _ _ hl W X s)
  · cases hl
theorem snd_no {c : CS} : SndS q N ⟨fun _ _ => false, fun _ _ => false⟩ c := ⟨fun sc st h => by (cases h), fun sc st h => by (cases h)⟩
theorem isNm_of {e : Expr} (h : isNm e = true) : ∃ y p, e = .Name y p := by
  cases e <;> first | exact ⟨_, _, rfl⟩ | exact Bool.noConfusion h
theorem celNm_of {sc : Scope} {e : Expr} (h : celNm sc e = true) : ∃ y p, e = .Name y p ∧ sc.names.lookup y = some .cell := by
  cases e <;> first | exact ⟨_, _, rfl, of_decide_eq_true h⟩ | exact Bool.noConfusion h
theorem snd_asg {tg : TGT} {e : CE} {sc : Scope} {st : Stmt} (h : (kAsgLc q N tg e sc st || kAsg1 q N tg e sc st) = true) {W : WX} {X : Cx} (s : SOk q sc N W X) : PS X st (tS q W (.asg tg e)) := by
  rw [Bool.or_eq_true] at h
  rcases h with h | h
  · unfold kAsgLc at h
    split at h
    · split at h
      · rename_i i fz k it tg' c e' own x tge ev pos
        rw [Bool.and_eq_true, Bool.and_eq_true] at h
        have hc : cLc N k (okA q N it) tg' c (okE q N c) (okE q N e') own false sc ev = true := h.1.2
        obtain ⟨_, elt, tge2, iter, ifs, scope, p2, rfl, h2, l⟩ := lcok_of (okE_all it).2.1 (okE_all c).1 (okE_all e').1 s.x hc
        have := ss_asgLc (fz := fz) (spos := pos) s.x l h.1.1 h.2
        rw [h2] at this
        exact this
      · cases h
    · cases h
  · unfold kAsg1 at h
    split at h
    · rename_i tge ev pos
      simp only [Bool.and_eq_true, Bool.or_eq_true, Bool.not_eq_true'] at h
      obtain ⟨⟨⟨⟨h1, h2⟩, h3⟩, h4⟩, h5⟩ := h
      refine ss_asg s h1 h2 (h3.imp id celNm_of) (h4.imp id isNm_of) ((okE_all e).1 _ _ _ h5 W X s.x)
    · cases h
theorem okS_all : ∀ c : CS, SndS q N (okS q N c) c := by
  intro c
  induction c with
  | skip =>
    refine ⟨fun sc st h W X s => ?_, fun sc sts h W X s => ?_⟩
    · unfold okS at h
      simp only at h
      split at h
      · exact ss_pass
      · cases h
    · unfold okS at h
      simp only at h
      split at h
      · exact ss_skip
      · exact ss_one ss_pass
      · cases h
  | seq a b ha hb =>
    refine ⟨fun sc st h => (by cases h), fun sc sts h W X s => ?_⟩
    unfold okS at h
    simp only at h
    split at h
    · rename_i hg
      have := hb.l _ _ h W X s
      cases a <;> first | exact ss_frz this | exact ss_clr this | cases hg
    · split at h
      · rw [Bool.and_eq_true] at h
        exact ss_seq (ha.s _ _ h.1 W X s) (hb.l _ _ h.2 W X s)
      · cases h
  | asg tg e => exact snd_one fun sc st h W X s => snd_asg h s
  | exp e =>
    refine snd_one fun sc st h W X s => ?_
    unfold cExp at h
    split at h
    · simp only [Bool.and_eq_true, Bool.not_eq_true'] at h
      exact ss_exp h.1.1 h.1.2 ((okE_all e).1 _ _ _ h.2 W X s.x)
    · cases h
  | ret e =>
    refine snd_one fun sc st h W X s => ?_
    unfold cRet at h
    split at h
    · exact ss_ret ((okE_all e).1 _ _ _ h W X s.x)
    · unfold nonB at h
      split at h
      · exact ss_retN
      · cases h
    · cases h
  | sfld o f e =>
    refine snd_one fun sc st h W X s => ?_
    unfold kSfl at h
    split at h
    · simp only [Bool.and_eq_true, decide_eq_true_eq, Bool.not_eq_true'] at h
      obtain ⟨⟨⟨⟨rfl, h1⟩, h2⟩, h3⟩, h4⟩ := h
      exact ss_sfld s.x h1 h2 ((okE_all o).1 _ _ _ h3 W X s.x) ((okE_all e).1 _ _ _ h4 W X s.x)
    · cases h
  | sidx o i e =>
    refine snd_one fun sc st h W X s => ?_
    unfold kSix at h
    split at h
    · simp only [Bool.and_eq_true, Bool.not_eq_true'] at h
      obtain ⟨⟨⟨⟨⟨h1, h2⟩, h3⟩, h4⟩, h5⟩, h6⟩ := h
      exact ss_sidx s.x h1 h2 h3 ((okE_all o).1 _ _ _ h4 W X s.x) ((okE_all i).1 _ _ _ h5 W X s.x) ((okE_all e).1 _ _ _ h6 W X s.x)
    · cases h
  | aug i o e =>
    refine snd_one fun sc st h W X s => ?_
    unfold kAu at h
    split at h
    · rename_i y p op ev pos
      simp only [Bool.and_eq_true, decide_eq_true_eq] at h
      obtain ⟨⟨⟨h1, h2⟩, h3⟩, h4⟩ := h
      have hl : sc.names.lookup y = some .local ∨ sc.names.lookup y = some .cell := by
        unfold locB at h3
        split at h3
        · exact .inl (by assumption)
        · exact .inr (by assumption)
        · cases h3
      have he := (okE_all e).1 _ _ _ h4 W X s.x
      cases o <;> cases op <;> first | exact ss_aug s rfl h2 hl he | cases h1
    · cases h
  | augf _ _ _ _ => exact snd_no
  | ite c a b ha hb =>
    refine snd_one fun sc st h W X s => ?_
    unfold kIf at h
    split at h
    · rw [Bool.and_eq_true, Bool.and_eq_true] at h
      exact ss_ite ((okE_all c).1 _ _ _ h.1.1 W X s.x) (ha.l _ _ h.1.2 W X s) (hb.l _ _ h.2 W X s)
    · cases h
  | «for» k it tg b clr hb =>
    refine snd_one fun sc st h W X s => ?_
    unfold kFo at h
    split at h
    · rw [Bool.and_eq_true, Bool.and_eq_true] at h
      obtain ⟨pi, pl⟩ := snd_it (okE_all it).2.1 s.x h.1.1
      exact ss_for s pi pl h.1.2 (hb.l _ _ h.2 W X s)
    · cases h
  | «while» c b clr hb =>
    refine snd_one fun sc st h W X s => ?_
    unfold kWh at h
    split at h
    · rw [Bool.and_eq_true] at h
      exact ss_while s ((okE_all c).1 _ _ _ h.1 W X s.x) (hb.l _ _ h.2 W X s)
    · cases h
  | brk =>
    refine snd_one fun sc st h W X s => ?_
    split at h
    · exact ss_brk
    · cases h
  | cnt =>
    refine snd_one fun sc st h W X s => ?_
    split at h
    · exact ss_cnt
    · cases h
  | raise c as => exact snd_one fun sc st h W X s => PS.dyn fun Z σ H ⟨env, μ, ι, G, R, S, k⟩ => k.elim
  | «try» b cs nm h els hb hh he =>
    refine snd_one fun sc st hk W X s => ?_
    unfold kTry at hk
    split at hk
    · rw [Bool.and_eq_true] at hk
      exact ss_try (hb.l _ _ hk.1 W0 _ s.nox) (he.l _ _ hk.2 W X s)
    · cases hk
  | frz i => exact snd_no
  | clr vs =>
    refine ⟨fun sc st h => (by cases h), fun sc sts h W X s => ?_⟩
    cases sts with
    | nil => exact ss_clr1
    | cons _ _ => cases h
end Co

set_option linter.all false
set_option maxRecDepth 100000
set_option Elab.async false
/-! Co26: every def of the table keeps its promise. -/
namespace Co
open PySem L2
/-- what is fixed, at n calls deep -/
def Cq.at (q : Cq) (n : Nat) : Cq := { q with call := run q.P n, k := 2 * n }
/-- what is known of a def -/
def DefIs (q : Cq) (f : Nat) (F : FnT) (fd : FuncData) (ps : List Str) : Prop :=
  ∃ (x qual : Str) (params : Arguments) (body : List Stmt) (scope : Scope) (dvs : List V) (kws : List (Str × V)) (N : List Str), FunD q.T.K x qual params body scope dvs kws (q.fA f) fd ∧ FnScope N ps scope ∧ F.np = ps.length ∧ F.nv = N.length ∧
    (∀ n, (okS (q.at n) N F.body).l scope body = true) ∧ (∀ dv, dflB q f dv = true → ∃ ds, Vals (dv.map dV) ds ∧ Binds q.T.K fd ps ds)
def DefOk (q : Cq) (f : Nat) (F : FnT) : Prop := ∃ fd ps, DefIs q f F fd ps
section
variable {q : Cq} {P : Program} {w : World} {mg : Str → Option Value} {base : Heap}
/-- a def's promise, in a program -/
def FnP (q : Cq) (P : Program) (w : World) (mg : Str → Option Value) (base : Heap) (f : Nat) : Prop :=
  ∃ (fd : FuncData) (ps : List Str), FnOk P w q.T.K mg base (L2.CX P w) q.k (q.fA f) fd ps (spC q.T q.call f) ∧ (∀ dv, dflB q f dv = true → ∃ ds, Vals (dv.map dV) ds ∧ Binds q.T.K fd ps ds) ∧ PySem.W.keepIn q.T.K (.ref (q.fA f)) = true
theorem relS_start {T : Nam} {ι : List Addr} {G : Hp} {vs : List V} {ds : List D} (r : RepL T ι G vs ds) (N : List Str) : RelS T ι G (ds.map some ++ List.replicate (N.length - ds.length) none) (L2.start N vs) := by
  have hl := r.length
  refine ⟨by unfold L2.start; rw [List.length_append, List.length_append, List.length_map, List.length_map, List.length_replicate, List.length_replicate, hl], fun i d e => ?_⟩
  by_cases h : i < ds.length
  · rw [List.getElem?_append_left (by rw [List.length_map]; exact h), List.getElem?_map] at e
    obtain ⟨d', hd, he⟩ := Option.map_eq_some_iff.mp e
    cases he
    obtain ⟨v, hv, rv⟩ := r.get hd
    refine ⟨v, ?_, rv⟩
    unfold L2.start
    rw [List.getElem?_append_left (by rw [List.length_map, hl]; exact h), List.getElem?_map, hv]
    rfl
  · rw [List.getElem?_append_right (by rw [List.length_map]; omega), List.getElem?_replicate] at e
    split at e <;> cases e
theorem fn_step (hlk : Lk q mg) {n : Nat} (ih : ∀ f, (∃ ds μ, run q.P n f ds μ ≠ .bad) → FnP (q.at n) P w mg base f) {f : Nat} {F : FnT} (hF : q.P.fns[f]? = some F) {fd : FuncData} {ps : List Str} (hd : DefIs q f F fd ps) :
    FnOk P w q.T.K mg base (L2.CX P w) (2 * (n + 1)) (q.fA f) fd ps (spC q.T (run q.P (n + 1)) f) := by
  obtain ⟨x, qual, params, body, scope, dvs, kws, N, hfun, hsc, hnp, hnv, hok, hdf⟩ := hd
  have runE : ∀ ds μ, run q.P (n + 1) f ds μ = if F.np = ds.length then leave μ (fin (evS q.P (run q.P n) F.body (ds.map some ++ List.replicate (F.nv - F.np) none) μ)) else .bad := fun ds μ => by
    unfold run
    rw [hF]
  have lenE : ∀ vs H Q E, spC q.T (run q.P (n + 1)) f vs H Q E → vs.length = ps.length := by
    intro vs H Q E ⟨ι, G, μ, ds, R, rl, c⟩
    rw [runE] at c
    split at c
    · rename_i hl
      rw [rl.length, ← hl, hnp]
    · exact c.elim
  refine hfun.ok (CX := L2.CX P w) hsc lenE fun cdv A outer s H vs Q E hr ⟨ι, G, μ, ds, R, rl, c⟩ => ?_
  rw [runE] at c
  split at c
  · rename_i hl
    have c2 := leave_ct R c
    have so : SOk (q.at n) scope N (fun cls d _ H => E cls d H) (cxOf (L2.CX P w) P w q.T.K mg base N qual scope (q.fA f) cdv A outer s H E) := {
      x := { eK := rfl, eS := rfl, eN := rfl, nd := hsc.nd, calm := rfl, room := hr, tk := takes_of rfl rfl rfl rfl, lk := ⟨hlk.fn, hlk.kp, hlk.kpc, hlk.con, hlk.blt, hlk.cls, hlk.inj, hlk.at_, hlk.mth, hlk.kit, hlk.ity, hlk.rdi, hlk.mak⟩, fns := fun g hg => ⟨ih g hg⟩ }
      po := passes_of rfl
      fnl := fun _ => rfl }
    refine ⟨_, (okS_all F.body).l _ _ (hok n) _ _ so, _, μ, ι, G, R, relS_start rl N, ?_⟩
    have e1 : F.nv - F.np = N.length - ds.length := by rw [hnv, hl]
    rw [e1] at c2
    show CtS q.T _ ι G (evS q.P (run q.P n) F.body _ μ) _
    cases er : evS q.P (run q.P n) F.body (ds.map some ++ List.replicate (N.length - ds.length) none) μ with
    | bad => rw [er] at c2; exact c2
    | ex p μ1 =>
      obtain ⟨y, env1⟩ := p
      rw [er] at c2
      exact fun cls dd σ' ι' G' H' g R' S' rx => c2 cls dd ι' G' H' g R' rx
    | ok p μ1 =>
      obtain ⟨sg, env1⟩ := p
      rw [er] at c2
      cases sg with
      | nx => exact fun σ' ι' G' H' g R' S' => c2 .non ι' G' H' g R' .non
      | rt d => exact c2
      | bk => exact c2.elim
      | ct => exact c2.elim
  · exact c.elim
theorem fn_all (hlk : Lk q mg) (hd : ∀ f F, q.P.fns[f]? = some F → DefOk q f F) : ∀ n f, (∃ ds μ, run q.P n f ds μ ≠ .bad) → FnP (q.at n) P w mg base f := by
  intro n
  induction n with
  | zero => exact fun f ⟨ds, μ, h⟩ => absurd rfl h
  | succ n ih =>
    intro f ⟨ds0, μ0, h0⟩
    obtain ⟨F, hF⟩ : ∃ F, q.P.fns[f]? = some F := by
      cases e : q.P.fns[f]? with
      | none => exact absurd (by show run q.P (n + 1) f ds0 μ0 = .bad; unfold run; rw [e]) h0
      | some F => exact ⟨F, rfl⟩
    obtain ⟨fd, ps, hds⟩ := hd f F hF
    obtain ⟨x, qual, params, body, scope, dvs, kws, N, hfun, _, _, _, _, hdf⟩ := id hds
    exact ⟨fd, ps, fn_step hlk ih hF hds, hdf, hfun.kp⟩
end
end Co

set_option linter.all false
set_option maxRecDepth 100000
set_option Elab.async false
/-! Co27: what the head tells. -/
namespace Co
open PySem L2
/-- the static part of a law -/
structure Hs where
  P : Prog
  tx : Tx
  dfl : List (List D)
  dd : List He.DefD
/-- a field's name -/
def fNm (fld : List Str) (f : Nat) : Str := match fld[f]? with
  | some s => s
  | none => ⟨Array.replicate (f + 1000) 0⟩
def cNm (cnm : List (Str × Nat)) (c : Nat) : Str := match cnm.find? (fun p => p.2 == c) with
  | some p => p.1
  | none => ""
def Hs.T (h : Hs) (K : PySem.W.Frag) : Nam := ⟨K, fun c => He.ga K (cNm h.tx.cnm c), fNm h.tx.fld⟩
def Hs.fA (h : Hs) (K : PySem.W.Frag) (f : Nat) : Addr := match h.dd[f]? with
  | some d => He.fAd K d.at_
  | none => 0
def Hs.q (h : Hs) (K : PySem.W.Frag) : Cq := { P := h.P, tx := h.tx, T := h.T K, fA := h.fA K, call := fun _ _ _ => .bad, k := 0, dfl := h.dfl }
def clsB (K : PySem.W.Frag) (C : Addr) : Bool := PySem.W.plainGet K C Str.empty && (PySem.W.hasDictIn K C && (PySem.W.plainOver K C && He.eqO (PySem.W.findIn K (.ref C) "__setattr__") (some (some (.builtin "object.__setattr__")))))
theorem clsB_ok {K : PySem.W.Frag} {C : Addr} (c : clsB K C = true) : Cls K C := by
  obtain ⟨c1, c⟩ := He.ba c
  obtain ⟨c2, c⟩ := He.ba c
  obtain ⟨c3, c4⟩ := He.ba c
  exact ⟨c1, c2, c3, He.eqO_ok c4⟩
/-- a constant of the module -/
def dDv : D → He.Dv
  | .non => .non
  | .bl b => .bl b
  | .int i => .int i
  | .str x => .str x
  | _ => .non
def conB (K : PySem.W.Frag) (x : Str) : D → Bool
  | .int i => (He.Fa.int x i).ok K
  | .str z => (He.Fa.str x z).ok K && z.cps.toList.all fun c => decide (c < 0x110000)
  | .wtup ds => (He.Fa.glo x).ok K && He.tupB K x (ds.map dDv) && ds.all D.lit
  | _ => false
theorem dv_lit {K : PySem.W.Frag} : ∀ {d : D}, d.lit = true → (dDv d).v K = dV d
  | .non, _ => rfl
  | .bl _, _ => rfl
  | .int _, _ => rfl
  | .str _, _ => rfl
theorem dvs_lit {K : PySem.W.Frag} {ds : List D} (h : ds.all D.lit = true) : (ds.map dDv).map (He.Dv.v K) = ds.map dV := by
  rw [List.map_map]
  exact List.map_congr_left fun d hd => dv_lit (List.all_eq_true.mp h d hd)
theorem conB_ok {K : PySem.W.Frag} {hp : Heap} {mg : Str → Option Value} {T : Nam} (hK : T.K = K) (X : K.In hp) (G : hp.Ns mainGlobals mg) {x : Str} {d : D} (h : conB K x d = true) : ∃ v u, mg x = some u ∧ RelV v u ∧ ∀ ι G, RepD T ι G v d := by
  cases d <;> first | cases h | skip
  · rename_i i
    obtain ⟨t, ht⟩ := He.int_ok X G h
    exact ⟨.int i, _, ht, ⟨t, rfl⟩, fun _ _ => .int i⟩
  · rename_i z
    obtain ⟨h1, h2⟩ := He.ba h
    obtain ⟨t, ht⟩ := He.str_ok X G h1
    exact ⟨.str z, _, ht, ⟨t, rfl⟩, fun _ _ => .str fun c hc => of_decide_eq_true (List.all_eq_true.mp h2 c hc)⟩
  · rename_i ds
    obtain ⟨h1, h2⟩ := He.ba h
    obtain ⟨h3, h4⟩ := He.ba h1
    refine ⟨.ref (He.ga K x), _, He.glo_ok X G h3, rfl, fun ι G => .wtup ?_ (RepL.vals h2)⟩
    rw [hK, ← dvs_lit (K := K) h2]
    exact He.tupB_ok h4 G
def kds (n : Nat) : List Kd := (List.range n).map Kd.own ++ ["NoneType", "bool", "int", "str", "tuple", "list", "dict"].map Kd.ty
def tys (n : Nat) : List Ty := (List.range n).map Ty.own ++ [.int, .bool, .str, .list, .tuple, .dict]
def ityB (K : PySem.W.Frag) (C : Addr) : Bool := clsB K C && (decide (PySem.W.findIn K (.ref C) "__class__" = some (some (.builtin "object.__class__"))) && (decide (PySem.W.specialIn K (.builtin "object.__class__") "__get__" = some (some (.builtin "getset_descriptor.__get__"))) &&
  (decide (PySem.W.takesIn K (.builtin "object.__class__") = some true) && decide (PySem.W.mroIn K C (.type "object") = some true))))
/-- C.__init__ read off the class -/
def rdiB (K : PySem.W.Frag) (C f : Addr) : Bool := PySem.W.readsIn K C (.type "type") && (He.eqO (PySem.W.specialIn K (.ref C) "__getattribute__") (some (some (.builtin "type.__getattribute__"))) && ((match PySem.W.findCls K (.ref C) (.type "type") "__init__" with
    | some (.val v) => decide (v = .ref f)
    | _ => false) && PySem.W.keepIn K (.ref f)))
theorem rdiB_ok {K : PySem.W.Frag} {C f : Addr} (h : rdiB K C f = true) : PySem.W.readsIn K C (.type "type") = true ∧ PySem.W.specialIn K (.ref C) "__getattribute__" = some (some (.builtin "type.__getattribute__")) ∧ PySem.W.findCls K (.ref C) (.type "type") "__init__" = some (.val (.ref f)) ∧ PySem.W.keepIn K (.ref f) = true := by
  obtain ⟨h1, h⟩ := He.ba h
  obtain ⟨h2, h⟩ := He.ba h
  obtain ⟨h3, h4⟩ := He.ba h
  refine ⟨h1, He.eqO_ok h2, ?_, h4⟩
  split at h3
  · rename_i v e
    rw [e, of_decide_eq_true h3]
  · cases h3
/-- all that is asked of the head -/
def Hs.ok (h : Hs) (K : PySem.W.Frag) : Bool :=
  (h.tx.fnm.all fun p => He.eqO (PySem.W.nsIn K mainGlobals p.1) (some (some (.ref (h.fA K p.2)))) && PySem.W.keepIn K (.ref (h.fA K p.2))) &&
  ((h.tx.cnm.all fun p => He.eqO (PySem.W.nsIn K mainGlobals p.1) (some (some (.ref ((h.T K).cA p.2)))) && PySem.W.keepIn K (.ref ((h.T K).cA p.2))) &&
  ((h.tx.gnm.all fun p => match h.P.consts[p.2]? with
    | some d => conB K p.1 d
    | none => true) &&
  ((blts.all fun x => He.eqO (PySem.W.nsIn K mainGlobals x) (some none)) &&
  (((List.range h.P.fok.length).all fun c => let C := (h.T K).cA c
      match h.P.fok.getD c [] with
      | [] => true
      | fs => clsB K C && fs.all fun f => He.eqO (PySem.W.findIn K (.ref C) (fNm h.tx.fld f)) (some none)) &&
  (((List.range h.P.mth.length).all fun c => let C := (h.T K).cA c
      match h.P.mth.getD c [] with
      | [] => true
      | ms => clsB K C && ms.all fun p => He.eqO (PySem.W.findIn K (.ref C) (h.tx.mnm.getD p.1 "")) (some (some (.ref (h.fA K p.2)))) && (PySem.W.isFn K (.ref (h.fA K p.2)) && PySem.W.keepIn K (.ref (h.fA K p.2)))) &&
  (((kds h.P.sub.length).all fun k => (tys h.P.sub.length).all fun t => decide (PySem.W.kitOne K (kdV (h.q K) k) (tyV' (h.q K) t) = some (isiK h.P.sub k t))) &&
  (((List.range h.P.sub.length).all fun c => ityB K ((h.T K).cA c)) &&
  ((List.range h.P.init.length).all fun c => let C := (h.T K).cA c
      match h.P.init.getD c none with
      | none => true
      | some f => (PySem.W.makesIn K C && (He.eqO (PySem.W.findIn K (.ref C) "__init__") (some (some (.ref (h.fA K f)))) && (PySem.W.isFn K (.ref (h.fA K f)) && PySem.W.keepIn K (.ref C)))) && rdiB K C (h.fA K f))))))))) 
/-- what does not need the head -/
def Hs.st (h : Hs) : Bool := decide h.tx.fld.Nodup && (h.tx.fld.all fun s : Str => decide (s.cps.size < 1000)) && (h.tx.mnm.all fun m : Str => decide (m.cps.size < 1000) && !h.tx.fld.contains m) && (h.P.mth.all fun ms => ms.all fun p => decide (p.1 < h.tx.mnm.length))
theorem nodupG {α : Type} {l : List α} (h : l.Nodup) {i j : Nat} {a : α} (e1 : l[i]? = some a) (e2 : l[j]? = some a) : i = j := by
  obtain ⟨h1, f1⟩ := List.getElem?_eq_some_iff.mp e1
  obtain ⟨h2, f2⟩ := List.getElem?_eq_some_iff.mp e2
  rcases Nat.lt_trichotomy i j with q | q | q
  · exact absurd (f1.trans f2.symm) (List.pairwise_iff_getElem.mp h i j h1 h2 q)
  · exact q
  · exact absurd (f2.trans f1.symm) (List.pairwise_iff_getElem.mp h j i h2 h1 q)
theorem getD_mem {α : Type} {l : List α} {i : Nat} {d : α} (h : i < l.length) : l.getD i d ∈ l := by
  have e : l.getD i d = l[i] := by simp [List.getD, List.getElem?_eq_getElem h]
  rw [e]
  exact List.getElem_mem h
theorem fNm_inj {fld : List Str} (nd : fld.Nodup) (hs : (fld.all fun s : Str => decide (s.cps.size < 1000)) = true) : ∀ f g, fNm fld f = fNm fld g → f = g := by
  have big : ∀ (f : Nat) (s : Str), fld[f]? = some s → s.cps.size < 1000 := fun f s h => of_decide_eq_true (List.all_eq_true.mp hs s (List.mem_of_getElem? h))
  intro f g h
  unfold fNm at h
  cases hf : fld[f]? with
  | none => cases hg : fld[g]? with
    | none =>
      rw [hf, hg] at h
      have := congrArg (fun s : Str => s.cps.size) h
      simp at this
      exact this
    | some s =>
      rw [hf, hg] at h
      have := congrArg (fun s : Str => s.cps.size) h
      have h2 := big g s hg
      simp at this
      omega
  | some s => cases hg : fld[g]? with
    | none =>
      rw [hf, hg] at h
      have := congrArg (fun s : Str => s.cps.size) h
      have h2 := big f s hf
      simp at this
      omega
    | some t =>
      rw [hf, hg] at h
      have h : s = t := h
      subst h
      exact nodupG nd hf hg
theorem mem_of_lookup {α : Type} {x : Str} {l : List (Str × α)} {v : α} (h : l.lookup x = some v) : (x, v) ∈ l := by
  induction l with
  | nil => cases h
  | cons p r ih =>
    obtain ⟨k, w⟩ := p
    rw [List.lookup_cons] at h
    split at h
    · rename_i e
      cases h
      rw [eq_of_beq e]
      exact List.mem_cons_self
    · exact List.mem_cons_of_mem _ (ih h)
theorem mem_of_lookupN {α : Type} {x : Nat} {l : List (Nat × α)} {v : α} (h : l.lookup x = some v) : (x, v) ∈ l := by
  induction l with
  | nil => cases h
  | cons p r ih =>
    obtain ⟨k, w⟩ := p
    rw [List.lookup_cons] at h
    split at h
    · rename_i e
      cases h
      rw [eq_of_beq e]
      exact List.mem_cons_self
    · exact List.mem_cons_of_mem _ (ih h)
theorem getD_lt {α : Type} {l : List α} {i : Nat} {d : α} (h : l.getD i d ≠ d) : i < l.length := by
  by_cases e : i < l.length
  · exact e
  · exact absurd (by simp [List.getD, List.getElem?_eq_none (Nat.le_of_not_lt e)]) h
theorem lk_of {h : Hs} {K : PySem.W.Frag} {hp : Heap} {mg : Str → Option Value} (X : K.In hp) (G : hp.Ns mainGlobals mg) (hs : h.st = true) (c : h.ok K = true) : Lk (h.q K) mg := by
  unfold Hs.ok at c
  obtain ⟨c1, c⟩ := He.ba c
  obtain ⟨c2, c⟩ := He.ba c
  obtain ⟨c3, c⟩ := He.ba c
  obtain ⟨c4, c⟩ := He.ba c
  obtain ⟨c5, c⟩ := He.ba c
  obtain ⟨c6, c⟩ := He.ba c
  obtain ⟨c7, c⟩ := He.ba c
  obtain ⟨c8, c9⟩ := He.ba c
  unfold Hs.st at hs
  simp only [Bool.and_eq_true, decide_eq_true_eq] at hs
  obtain ⟨⟨⟨s1, s2⟩, s3⟩, s4⟩ := hs
  have inj := fNm_inj s1 s2
  refine ⟨fun x f hl => ?_, fun x f hl => ?_, fun x c hl => ?_, fun x j d hl hd => ?_, fun x hx => ?_, fun x c hl => ?_, inj, fun c f hf => ?_, fun c m f hl => ?_, fun k t hk ht => ?_, fun c hc H a dx fs ha => ?_, fun c f hf => ?_, fun c f hf => ?_⟩
  · have := List.all_eq_true.mp c1 _ (mem_of_lookup hl)
    exact PySem.W.mg_of X G (He.eqO_ok (He.ba this).1)
  · exact (He.ba (List.all_eq_true.mp c1 _ (mem_of_lookup hl))).2
  · exact (He.ba (List.all_eq_true.mp c2 _ (mem_of_lookup hl))).2
  · have := List.all_eq_true.mp c3 _ (mem_of_lookup hl)
    have hd : h.P.consts[j]? = some d := hd
    simp only [hd] at this
    exact conB_ok rfl X G this
  · exact PySem.W.mg_none_of X G (He.eqO_ok (List.all_eq_true.mp c4 x hx))
  · have := List.all_eq_true.mp c2 _ (mem_of_lookup hl)
    exact PySem.W.mg_of X G (He.eqO_ok (He.ba this).1)
  · have hf : (h.P.fok.getD c []).contains f = true := hf
    have hc : c < h.P.fok.length := getD_lt fun e => by rw [e] at hf; cases hf
    have := List.all_eq_true.mp c5 c (List.mem_range.mpr hc)
    simp only at this
    split at this
    · rename_i e
      rw [e] at hf
      cases hf
    · obtain ⟨k1, k2⟩ := He.ba this
      exact ⟨clsB_ok k1, He.eqO_ok (List.all_eq_true.mp k2 f (by simpa using hf))⟩
  · have hl : (h.P.mth.getD c []).lookup m = some f := hl
    have hc : c < h.P.mth.length := getD_lt fun e => by rw [e] at hl; cases hl
    have := List.all_eq_true.mp c6 c (List.mem_range.mpr hc)
    simp only at this
    have hm := mem_of_lookupN hl
    split at this
    · rename_i e
      rw [e] at hl
      cases hl
    · obtain ⟨k1, k2⟩ := He.ba this
      obtain ⟨m1, m2⟩ := He.ba (List.all_eq_true.mp k2 _ hm)
      obtain ⟨m3, m4⟩ := He.ba m2
      refine ⟨clsB_ok k1, ⟨He.eqO_ok m1, m3, m4⟩, fun g e => ?_⟩
      have hlt : m < h.tx.mnm.length := by
        have h1 := List.all_eq_true.mp s4 (h.P.mth.getD c []) (getD_mem hc)
        exact of_decide_eq_true (List.all_eq_true.mp h1 _ hm)
      have hmm : h.tx.mnm.getD m "" ∈ h.tx.mnm := getD_mem hlt
      have h2 := List.all_eq_true.mp s3 _ hmm
      rw [Bool.and_eq_true, decide_eq_true_eq, Bool.not_eq_true'] at h2
      have e : h.tx.mnm.getD m "" = fNm h.tx.fld g := e
      unfold fNm at e
      split at e
      · rename_i s hg
        have : h.tx.fld.contains s = true := by simpa using List.mem_of_getElem? hg
        rw [e] at h2
        rw [h2.2] at this
        cases this
      · have := congrArg (fun s : Str => s.cps.size) e
        simp at this
        have h3 := h2.1
        simp at h3
        omega
  · have mk : k ∈ kds h.P.sub.length := by
      unfold kds
      cases k with
      | own c =>
        have := of_decide_eq_true (show decide (c < h.P.sub.length) = true from hk)
        exact List.mem_append_left _ (List.mem_map.mpr ⟨c, List.mem_range.mpr this, rfl⟩)
      | ty n =>
        have hn : ["NoneType", "bool", "int", "str", "tuple", "list", "dict"].contains n = true := hk
        exact List.mem_append_right _ (List.mem_map.mpr ⟨n, by simpa using hn, rfl⟩)
    have mt : t ∈ tys h.P.sub.length := by
      unfold tys
      cases t with
      | own c =>
        have := of_decide_eq_true (show decide (c < h.P.sub.length) = true from ht)
        exact List.mem_append_left _ (List.mem_map.mpr ⟨c, List.mem_range.mpr this, rfl⟩)
      | _ => exact List.mem_append_right _ (by decide)
    exact of_decide_eq_true (List.all_eq_true.mp (List.all_eq_true.mp c7 k mk) t mt)
  · have hlt := of_decide_eq_true (show decide (c < h.P.sub.length) = true from hc)
    have := List.all_eq_true.mp c8 c (List.mem_range.mpr hlt)
    obtain ⟨k1, k2⟩ := He.ba this
    obtain ⟨k2, k3⟩ := He.ba k2
    obtain ⟨k3, k4⟩ := He.ba k3
    obtain ⟨k4, k5⟩ := He.ba k4
    exact .ins ha (clsB_ok k1) (of_decide_eq_true k2) (of_decide_eq_true k3) (of_decide_eq_true k4) (of_decide_eq_true k5)
  · have hf : h.P.init.getD c none = some f := hf
    have hc : c < h.P.init.length := getD_lt fun e => by rw [e] at hf; cases hf
    have := List.all_eq_true.mp c9 c (List.mem_range.mpr hc)
    simp only [hf] at this
    exact rdiB_ok (He.ba this).2
  · have hf : h.P.init.getD c none = some f := hf
    have hc : c < h.P.init.length := getD_lt fun e => by rw [e] at hf; cases hf
    have := List.all_eq_true.mp c9 c (List.mem_range.mpr hc)
    simp only [hf] at this
    obtain ⟨k1, k2⟩ := He.ba (He.ba this).1
    obtain ⟨k2, k3⟩ := He.ba k2
    obtain ⟨k3, k4⟩ := He.ba k3
    exact ⟨k1, He.eqO_ok k2, k3, k4⟩
end Co

set_option linter.all false
set_option maxRecDepth 100000
set_option Elab.async false
/-! Co28: the hook, and the end. -/
namespace Co
open PySem L2
/-! ### the part of the heap: no list within -/
def notL (o : Obj) : Bool := match o.cls with
  | .type n => !(n == "list")
  | _ => true
def frC (g : Addr → Option Obj) (as : List Addr) : PySem.W.Frag := (He.frG g as).filter fun p => notL p.2
theorem lookup_mem {K : PySem.W.Frag} {a : Addr} {o : Obj} (h : K.lookup a = some o) : (a, o) ∈ K := mem_of_lookupN h
theorem frG_mem {g : Addr → Option Obj} {as : List Addr} {a : Addr} {o : Obj} (h : (a, o) ∈ He.frG g as) : g a = some o := by
  unfold He.frG at h
  obtain ⟨b, _, h2⟩ := List.mem_filterMap.mp h
  obtain ⟨o2, h3, h4⟩ := Option.map_eq_some_iff.mp h2
  cases h4
  exact h3
theorem frC_in {as : List Addr} {h : Heap} : (frC h.get? as).In h := fun a o e => frG_mem (List.mem_filter.mp (lookup_mem e)).1
def NoL (K : PySem.W.Frag) : Prop := ∀ a o, K.lookup a = some o → o.cls ≠ .type "list"
theorem frC_noL {g : Addr → Option Obj} {as : List Addr} : NoL (frC g as) := fun a o e z => by
  have h := (List.mem_filter.mp (lookup_mem e)).2
  simp only [notL, z] at h
  simp at h
def obsC (h : Hs) (K : PySem.W.Frag) : He.AlD := (h.ok K && h.dd.all fun d => d.ok K, h.dd.map fun d => He.fnW K d.at_)
def SaysC (h : Hs) (K : PySem.W.Frag) : Prop := obsC h K = He.valD h.dd
def obsCG (n : Nat) (h : Hs) (g : Addr → Option Obj) : He.AlD := obsC h (frC g (PySem.cStatics :: He.asD g n))
def hookC (n : Nat) (h : Hs) : PySem.W.Hook where
  α := He.AlD
  obs := fun s => obsCG n h s.heap.get?
  val := fun _ => He.valD h.dd
  says := fun _ hp => ∃ K : PySem.W.Frag, K.In hp ∧ NoL K ∧ SaysC h K
  of := fun _ _ e => ⟨_, frC_in, frC_noL, e⟩
  keeps := fun _ _ _ ⟨K, hK, n, c⟩ k => ⟨K, PySem.W.Frag.In.keeps hK k, n, c⟩
theorem obsCG_eq {n : Nat} {h : Hs} {g : Addr → Option Obj} {s : Shared} (e : ∀ a, g a = s.heap.get? a) : obsCG n h g = (hookC n h).obs s := by
  have e : g = s.heap.get? := funext e
  rw [e] <;> rfl
/-- the same over written addresses -/
def obsCA (as : List Addr) (h : Hs) (g : Addr → Option Obj) : He.AlD := obsC h (frC g as)
def hookA (as : List Addr) (h : Hs) : PySem.W.Hook where
  α := He.AlD
  obs := fun s => obsCA as h s.heap.get?
  val := fun _ => He.valD h.dd
  says := fun _ hp => ∃ K : PySem.W.Frag, K.In hp ∧ NoL K ∧ SaysC h K
  of := fun _ _ e => ⟨_, frC_in, frC_noL, e⟩
  keeps := fun _ _ _ ⟨K, hK, n, c⟩ k => ⟨K, PySem.W.Frag.In.keeps hK k, n, c⟩
theorem obsCA_eq {as : List Addr} {h : Hs} {g : Addr → Option Obj} {s : Shared} (e : ∀ a, g a = s.heap.get? a) : obsCA as h g = (hookA as h).obs s := by
  have e : g = s.heap.get? := funext e
  rw [e] <;> rfl
theorem SaysC.ok {h : Hs} {K : PySem.W.Frag} (c : SaysC h K) : h.ok K = true := (He.ba (congrArg (fun z : He.AlD => z.1) c)).1
theorem SaysC.def_ {h : Hs} {K : PySem.W.Frag} (c : SaysC h K) {i : Nat} {d : He.DefD} (hi : h.dd[i]? = some d) : ∃ fd, FunD K d.name d.qual d.params d.body d.scope (d.dvs K) (d.kws K) (h.fA K i) fd := by
  have c2 := (He.ba (show (h.ok K && h.dd.all fun d => d.ok K) = true from congrArg (fun z : He.AlD => z.1) c)).2
  have e : h.dd.map (fun d => He.fnW K d.at_) = h.dd.map He.DefD.val := congrArg (fun z : He.AlD => z.2) c
  have e2 : (h.dd.map fun d => He.fnW K d.at_)[i]? = (h.dd.map He.DefD.val)[i]? := by rw [e]
  rw [List.getElem?_map, List.getElem?_map, hi] at e2
  have ea : h.fA K i = He.fAd K d.at_ := by unfold Hs.fA; rw [hi]
  rw [ea]
  exact He.DefD.funD (Option.some.inj e2) (List.all_eq_true.mp c2 d (List.mem_of_getElem? hi))
/-! ### what is fixed of a def -/
def scB (N P : List Str) (sc : Scope) : Bool := (match sc.kind with
    | .function => true
    | _ => false) && !sc.isCoroutine && !sc.isGenerator && decide N.Nodup && decide (N.take P.length = P) && (P.all fun x => locB sc x) && sc.names.all fun y => match y.2 with
    | .free => false
    | _ => true
theorem scB_ok {N P : List Str} {sc : Scope} (h : scB N P sc = true) : FnScope N P sc := by
  unfold scB at h
  simp only [Bool.and_eq_true, Bool.not_eq_true', decide_eq_true_eq] at h
  obtain ⟨⟨⟨⟨⟨⟨h1, h2⟩, h3⟩, h4⟩, h5⟩, h6⟩, h7⟩ := h
  refine ⟨?_, h2, h3, h4, h5, fun x hx => ?_, fun y hy e => ?_⟩
  · split at h1
    · assumption
    · cases h1
  · have := List.all_eq_true.mp h6 x hx
    unfold locB at this
    split at this
    · exact .inl (by assumption)
    · exact .inr (by assumption)
    · cases this
  · have := List.all_eq_true.mp h7 y hy
    rw [e] at this
    cases this
/-- how values are bound to a def's parameters -/
def Bd (d : He.DefD) (ps : List Str) : Prop :=
  (d.dfl = [] → ∀ (kV doc pm : Value) (an : Option Addr) (cdv ct : Value) (us : List Value), us.length = ps.length → bindArgs (PySem.W.fnOf d.name d.qual d.params d.body d.scope .none kV doc pm an cdv ct) ⟨us, []⟩ = pure (ps.zip us)) ∧
  (d.dfl ≠ [] → ∀ n j, n + (d.dfl.length - j) = ps.length → j ≤ d.dfl.length → ∀ (T : Addr) (kV doc pm : Value) (an : Option Addr) (cdv ct : Value) (us its : List Value), us.length = n → its.length = d.dfl.length →
      ∃ k, bindArgs (PySem.W.fnOf d.name d.qual d.params d.body d.scope (.ref T) kV doc pm an cdv ct) ⟨us, []⟩ = seqItems? (.ref T) >>= k ∧ k (some its.toArray) = pure (ps.zip (us ++ its.drop j)))
structure DSt (h : Hs) (f : Nat) (F : FnT) : Prop where
  ex : ∃ (d : He.DefD) (N ps : List Str), h.dd[f]? = some d ∧ d.dfl = (h.dfl.getD f []).map dDv ∧ (h.dfl.getD f []).all D.lit = true ∧ (h.dfl.getD f []).length ≤ ps.length ∧ scB N ps d.scope = true ∧ F.np = ps.length ∧ F.nv = N.length ∧
    (∀ K n, (okS ((h.q K).at n) N F.body).l d.scope d.body = true) ∧ Bd d ps
theorem def_is {h : Hs} {K : PySem.W.Frag} {f : Nat} {F : FnT} {d : He.DefD} {N ps : List Str} {fd : FuncData} (hf : FunD K d.name d.qual d.params d.body d.scope (d.dvs K) (d.kws K) (h.fA K f) fd) (h2 : d.dfl = (h.dfl.getD f []).map dDv) (h3 : (h.dfl.getD f []).all D.lit = true)
    (h3' : (h.dfl.getD f []).length ≤ ps.length) (h4 : scB N ps d.scope = true) (h5 : F.np = ps.length) (h6 : F.nv = N.length) (h7 : ∀ K n, (okS ((h.q K).at n) N F.body).l d.scope d.body = true) (h8 : Bd d ps) : DefIs (h.q K) f F fd ps := by
  refine ⟨d.name, d.qual, d.params, d.body, d.scope, d.dvs K, d.kws K, N, hf, scB_ok h4, h5, h6, fun n => h7 K n, fun dv hdv => ?_⟩
  have hdv' : (decide ((h.dfl.getD f []).drop ((h.dfl.getD f []).length - dv.length) = dv) && dv.all D.lit) = true := hdv
  rw [Bool.and_eq_true, decide_eq_true_eq] at hdv'
  obtain ⟨e1, e2⟩ := hdv'
  have ev : d.dvs K = (h.dfl.getD f []).map dV := by
    unfold He.DefD.dvs
    rw [h2, dvs_lit h3]
  by_cases hz : d.dfl = []
  · have e0 : h.dfl.getD f [] = [] := by
      rw [hz] at h2
      exact List.map_eq_nil_iff.mp h2.symm
    rw [e0] at e1
    have e3 : dv = [] := by rw [← e1]; simp
    subst e3
    have ev2 : d.dvs K = [] := by rw [ev, e0]; rfl
    rw [ev2] at hf
    exact ⟨[], .nil, hf.bindsN (h8.1 hz)⟩
  · have hne : d.dvs K ≠ [] := by
      unfold He.DefD.dvs
      simpa using hz
    have hl : (d.dvs K).length = d.dfl.length := by
      unfold He.DefD.dvs
      simp
    have hl2 : (h.dfl.getD f []).length = d.dfl.length := by rw [h2, List.length_map]
    have hle : dv.length ≤ d.dfl.length := by
      have := congrArg List.length e1
      rw [List.length_drop] at this
      omega
    have hps : d.dfl.length ≤ ps.length := by rw [← hl2]; exact h3'
    obtain ⟨ds, k1, k2⟩ := hf.binds1 (ps := ps) (ps.length - dv.length) (d.dfl.length - dv.length) hne (by rw [hl]; omega) (by
      have := h8.2 hz (ps.length - dv.length) (d.dfl.length - dv.length) (by omega) (by omega)
      rw [hl]
      exact this)
    refine ⟨ds, ?_, k2⟩
    have e4 : (d.dvs K).drop (d.dfl.length - dv.length) = dv.map dV := by
      rw [ev, ← hl2, ← List.map_drop, e1]
    rw [← e4]
    exact k1
theorem def_ok {h : Hs} {K : PySem.W.Frag} (c : SaysC h K) {f : Nat} {F : FnT} (s : DSt h f F) : DefOk (h.q K) f F := by
  obtain ⟨d, N, ps, h1, h2, h3, h3', h4, h5, h6, h7, h8⟩ := s.ex
  obtain ⟨fd, hf⟩ := c.def_ h1
  exact ⟨fd, ps, def_is hf h2 h3 h3' h4 h5 h6 h7 h8⟩
theorem FnOk.cx0 {P : Program} {w : World} {K : PySem.W.Frag} {mg : Str → Option Value} {base : Heap} {k : Nat} {f : Addr} {fd : FuncData} {ps : List Str} {sp : Sp} (F : FnOk P w K mg base (L2.CX P w) k f fd ps sp) :
    FnOk P w K mg base (fun _ _ _ _ _ _ => False) k f fd ps (fun vs H Q _ => sp vs H Q fun _ _ _ => False) := by
  refine ⟨fun vs H Q E h => F.len vs H Q _ h, fun A outer s H args us vs Q E hr he hb hv h => ?_⟩
  refine codeAny_mono (F.run A outer s H args us vs Q _ hr he hb hv h) fun r s' q => ?_
  cases r with
  | error e =>
    obtain ⟨_, _, _, _, _, _, _, _, _, _, _, _, z⟩ := q
    exact z.elim
  | ok fl => cases fl <;> exact q
/-! ### the end -/
theorem fnP_law {h : Hs} {K : PySem.W.Frag} {P : Program} {w : World} {mg : Str → Option Value} {base hp : Heap} (X : K.In hp) (G : hp.Ns mainGlobals mg) (hs : h.st = true) (c : SaysC h K) (hd : ∀ f F, h.P.fns[f]? = some F → DSt h f F) (n f : Nat) (hr : ∃ ds μ, run h.P n f ds μ ≠ .bad) :
    FnP ((h.q K).at n) P w mg base f := fn_all (q := h.q K) (lk_of X G hs c.ok) (fun f F hF => def_ok c (hd f F hF)) n f hr
/-- the law holds of all scripts that may be handed to it, if the evaluator says so -/
theorem sp_law {h : Hs} {K : PySem.W.Frag} (nl : NoL K) {n f : Nat} {H : Hp} {a : Addr} {ns : List Int} (hO : Only H) (hS : SqL K H a (ns.map V.int)) (hrun : ∃ μ, run h.P n f [.lst (ns.map D.int)] [] = .ok (.bl true) μ) :
    spC ((h.q K).at n).T ((h.q K).at n).call f [.ref a] H (fun v _ => v = .bl true) (fun _ _ _ => False) := by
  obtain ⟨μ, hrun⟩ := hrun
  have hR : Rd H a (.lst (ns.map V.int)) := by
    rcases hS with h | ⟨o, its, m, e1, e2, _⟩
    · exact h
    · exact absurd e2 (nl a o e1)
  have hfr : ∃ o, H a = some (.frz o (.lst (ns.map V.int))) := by
    rcases hR with e | ⟨o, e⟩
    · rcases hO a with z | ⟨o, xs, z⟩
      · rw [z] at e; cases e
      · rw [z] at e; cases e
    · exact ⟨o, e⟩
  obtain ⟨o, ho⟩ := hfr
  refine ⟨[], fun b => if b = a then H a else none, [], [.lst (ns.map D.int)], ⟨⟨fun b u e => ?_⟩, rfl, List.nodup_nil, fun b hb => (by cases hb), fun i b c e1 e2 => (by simp at e1)⟩, .cons (.lst ?_ RepL.ints) .nil, ?_⟩
  · by_cases q : b = a
    · subst q
      simp only [if_pos rfl] at e
      rw [ho] at e
      cases e
      exact ho
    · simp only [if_neg q] at e
      cases e
  · exact .inr ⟨o, by simp only [if_pos rfl]; exact ho⟩
  · show Ct _ _ _ _ _ (run h.P n f [.lst (ns.map D.int)] []) _
    rw [hrun]
    intro v ι' G' H' g R rv
    cases rv
    rfl
/-- .. told to the walk's end -/
theorem law_facts {h : Hs} {l : PySem.W.OpenLaw} {w : World} {mg : Str → Option Value} {hp : Heap} {fa : Addr} {x : Str} {n f most : Nat} {F : FnT} (Y : ∃ K : PySem.W.Frag, K.In hp ∧ NoL K ∧ SaysC h K) (G : hp.Ns mainGlobals mg) (hs : h.st = true)
    (hd : ∀ f F, h.P.fns[f]? = some F → DSt h f F) (hF : h.P.fns[f]? = some F) {d : He.DefD} {N : List Str} (h1 : h.dd[f]? = some d) (h2 : h.dfl.getD f [] = []) (h2' : d.dfl = []) (h2k : d.kwd = []) (h4 : scB N [x] d.scope = true) (h5 : F.np = 1) (h6 : F.nv = N.length)
    (h7 : ∀ K n, (okS ((h.q K).at n) N F.body).l d.scope d.body = true) (h8 : Bd d [x]) (hfa : ∀ K, K.In hp → SaysC h K → fa = h.fA K f) (hrun : ∀ ns : List Int, ns.length ≤ most → ∃ μ, run h.P (n + 1) f [.lst (ns.map D.int)] [] = .ok (.bl true) μ) :
    ∃ (K : PySem.W.Frag) (fd : FuncData) (sp : Sp), K.In hp ∧ (∀ (s : Shared) (u : Value), BindsTo s fd ⟨[u], []⟩ [(x, u)]) ∧
        (∀ (H : Hp) (a : Addr) (ns : List Int), ns.length ≤ most → Only H → SqL K H a (ns.map V.int) → sp [.ref a] H (fun v _ => v = .bl true) fun _ _ _ => False) ∧
        ∀ base : Heap, K.In base → base.Ns mainGlobals mg → FnOk l.prog w K mg base (fun _ _ _ _ _ _ => False) (2 * (n + 1)) fa fd [x] sp := by
  obtain ⟨K, hK, nl, c⟩ := Y
  obtain ⟨fd, hf⟩ := c.def_ h1
  have e := hfa K hK c
  subst e
  have hdv : d.dvs K = [] := by unfold He.DefD.dvs; rw [h2']; rfl
  have hkw : d.kws K = [] := by unfold He.DefD.kws; rw [h2k]; rfl
  have hf' := hf
  rw [hdv] at hf'
  have b := hf'.bindsA (ps := [x]) (h8.1 h2')
  refine ⟨K, fd, fun vs H Q _ => spC (h.T K) (run h.P (n + 1)) f vs H Q fun _ _ _ => False, hK, fun s u => b s [u] rfl, fun H a ns hl hO hS => sp_law (h := h) nl hO hS (hrun ns hl), fun base hb hG => ?_⟩
  refine FnOk.cx0 ?_
  exact fn_step (q := h.q K) (lk_of hK G hs c.ok) (fn_all (q := h.q K) (lk_of hK G hs c.ok) (fun f F hF => def_ok c (hd f F hF)) n) hF (def_is (ps := [x]) hf (by rw [h2, h2']; rfl) (by rw [h2]; rfl) (by rw [h2]; exact Nat.zero_le _) h4 h5 h6 h7 h8)
end Co

set_option linter.all false
set_option maxRecDepth 100000
/-! Cm1: more equations of the evaluator, for proofs. -/
namespace Co
open PySem L2
section
variable (μ : Store) (i j : Int) (x y : Str) (b c : Bool) (xs ys : List D) (n : Nat) (d e : D) (t : Bool) (kvs : List (D × D)) (fs : List (Nat × D)) (r : Env)
theorem atI_nat' {α : Type} (xs : List α) (n : Nat) : atI xs (n : Int) = xs[n]? := by
  unfold atI ixN
  rw [if_pos (by omega)]
  by_cases h : n < xs.length
  · rw [if_pos (by omega)]; simp
  · rw [if_neg (by omega)]; simp; omega
theorem atI_zero {α : Type} (xs : List α) : atI xs 0 = xs[0]? := atI_nat' xs 0
theorem atI_one {α : Type} (xs : List α) : atI xs 1 = xs[1]? := atI_nat' xs 1
theorem atI_lit {α : Type} (xs : List α) (n : Nat) : atI xs (OfNat.ofNat n : Int) = xs[n]? := atI_nat' xs n
@[simp] theorem ixS_lst : ixS μ (.lst xs) (.int i) = ofO (atI xs i) μ := (rfl)
@[simp] theorem ixS_tup : ixS μ (.tup xs) (.int i) = ofO (atI xs i) μ := (rfl)
@[simp] theorem ixS_wtup : ixS μ (.wtup xs) (.int i) = ofO (atI xs i) μ := (rfl)
theorem ixS_str (h : sz x.length = true) : ixS μ (.str x) (.int i) = ofO ((atI x.cps.toList i).map fun c => .str ⟨#[c]⟩) μ := if_pos h
theorem ixS_dic (h : keyB t e = true) : ixS μ (.dic t kvs) e = ofO (kfind kvs e) μ := if_pos h
theorem lstOf_c {μ : Store} {n : Nat} {xs : List D} (h : μ[n]? = some (.lst xs)) : lstOf μ (.cell n) = some xs := by simp [lstOf, h]
theorem dicOf_c {μ : Store} {n : Nat} {t : Bool} {kvs : List (D × D)} (h : μ[n]? = some (.dic t kvs)) : dicOf μ (.cell n) = some (t, kvs) := by simp [dicOf, h]
theorem dicOf_cl {μ : Store} {n : Nat} {xs : List D} (h : μ[n]? = some (.lst xs)) : dicOf μ (.cell n) = none := by simp [dicOf, h]
theorem insOf_c {μ : Store} {n c : Nat} {fs : List (Nat × D)} (h : μ[n]? = some (.ins c fs)) : insOf μ (.cell n) = some (c, fs) := by simp [insOf, h]
theorem ixS_cl {μ : Store} {n : Nat} {xs : List D} (h : μ[n]? = some (.lst xs)) (i : Int) : ixS μ (.cell n) (.int i) = ofO (atI xs i) μ := by
  have e : seqOf μ (.cell n) = some xs := lstOf_c h
  simp [ixS, dicOf_cl h, e]
theorem ixS_cd {μ : Store} {n : Nat} {t : Bool} {kvs : List (D × D)} (h : μ[n]? = some (.dic t kvs)) {k : D} (hk : keyB t k = true) : ixS μ (.cell n) k = ofO (kfind kvs k) μ := by
  simp [ixS, dicOf_c h, hk]
theorem lenC {μ : Store} {n : Nat} {xs : List D} (h : μ[n]? = some (.lst xs)) : biS μ .len [.cell n] = .ok (.int xs.length) μ := by
  have e : seqOf μ (.cell n) = some xs := lstOf_c h
  simp [biS, lenOf, e]
theorem lenS (h : sz x.length = true) : biS μ .len [.str x] = .ok (.int x.length) μ := by simp [biS, lenOf, h]
/-- a store as long as before is as it is -/
theorem leave_len {μ μ' : Store} {d : D} (h : μ'.length = μ.length) : leave μ (.ok d μ') = .ok d μ' := by
  unfold leave
  have e : μ'.take μ.length = μ' := by rw [← h]; exact List.take_length
  simp only [e]
  split <;> rfl
@[simp] theorem leave_same (μ : Store) (d : D) : leave μ (.ok d μ) = .ok d μ := leave_len rfl
@[simp] theorem leave_set (μ : Store) (i : Nat) (c : Cell) (d : D) : leave μ (.ok d (μ.set i c)) = .ok d (μ.set i c) := leave_len List.length_set
theorem mulB_of {i j : Int} {a b : Nat} (ha : i.natAbs < 2 ^ a) (hb : j.natAbs < 2 ^ b) (h0 : 0 < a) (h1 : 0 < b) (h : a + b ≤ 1000000) : mulB i j = true := decide_eq_true (wide_mul ha hb h0 h1 h)
/-- both below 2 ^ 512 -/
theorem mulB_s {i j : Int} (h1 : -(2 ^ 512) < i) (h2 : i < 2 ^ 512) (h3 : -(2 ^ 512) < j) (h4 : j < 2 ^ 512) : mulB i j = true := mulB_of (a := 512) (b := 512) (by omega) (by omega) (by decide) (by decide) (by decide)
theorem divB_s {j : Int} (h1 : 0 < j) (h2 : j < 2 ^ 512) : divB j = true := by
  have h := wide_div (i := 0) (b := 512) h1 (by omega) (by decide) (by decide)
  exact decide_eq_true h
end
end Co
namespace Co
open PySem L2
theorem len_app (a b : Str) : (a ++ b).length = a.length + b.length := by rw [TL.len_tl, TL.tl_append, List.length_append, ← TL.len_tl, ← TL.len_tl]
theorem sz_of {n : Nat} (h : n ≤ 1000000) : sz n = true := decide_eq_true (Nat.le_trans h (by decide))
theorem mul_tl (a : Str) (n : Int) : TL.tl (Txt.mul a n) = (List.replicate n.toNat (TL.tl a)).flatten := by
  have main : ∀ (m : Nat) (x : Array Nat), ((List.replicate m a.cps).foldl (· ++ ·) x).toList = x.toList ++ (List.replicate m (TL.tl a)).flatten := fun m => by
    induction m with
    | zero => intro x; simp
    | succ m ih =>
      intro x
      rw [List.replicate_succ, List.foldl_cons, ih, List.replicate_succ, List.flatten_cons, Array.toList_append]
      simp [TL.tl]
  unfold Txt.mul
  split
  · rename_i h
    rw [show n.toNat = 0 by omega]
    rfl
  · rename_i h
    split
    · rename_i h2
      simp only [Bool.or_eq_true, beq_iff_eq] at h2
      rcases h2 with h2 | h2
      · subst h2
        simp
      · have e : TL.tl a = [] := by
          rw [TL.len_tl] at h2
          exact List.length_eq_zero_iff.mp h2
        rw [e]
        simp
    · show (Array.toList _) = _
      rw [main]
      simp
theorem mul_len (a : Str) (n : Int) : (Txt.mul a n).length = n.toNat * a.length := by
  rw [TL.len_tl, mul_tl]
  simp [TL.len_tl]
theorem len_one (c : Nat) : (⟨#[c]⟩ : Str).length = 1 := rfl
end Co
namespace Co
open PySem L2
theorem binS_muls (μ : Store) (a : Str) (n : Int) (h : mulSB a n = true) : binS μ .mul (.str a) (.int n) = .ok (.str (Txt.mul a n)) μ := if_pos h
end Co
namespace Co
open PySem L2
theorem bm_app {μ : Store} {i : Nat} {xs : List D} (h : μ[i]? = some (.lst xs)) (hz : sz (xs.length + 1) = true) (d : D) : bmS μ .append (.cell i) [d] = .ok .non (μ.set i (.lst (xs ++ [d]))) := by simp [bmS, h, hz]
theorem bm_ext {μ : Store} {i : Nat} {xs ys : List D} {d : D} (h : μ[i]? = some (.lst xs)) (h2 : lstOf μ d = some ys) (hz : sz (xs.length + ys.length) = true) : bmS μ .extend (.cell i) [d] = .ok .non (μ.set i (.lst (xs ++ ys))) := by simp [bmS, h, h2, hz]
theorem bmT_app {μ : Store} {i : Nat} {xs : List D} (h : μ[i]? = some (.lst xs)) : bmTy μ .append (.cell i) = true := by simp [bmTy, lstOf, h]
theorem bmT_ext {μ : Store} {i : Nat} {xs : List D} (h : μ[i]? = some (.lst xs)) : bmTy μ .extend (.cell i) = true := by simp [bmTy, lstOf, h]
theorem bmT_clear {μ : Store} {i : Nat} {xs : List D} (h : μ[i]? = some (.lst xs)) : bmTy μ .clear (.cell i) = true := by simp [bmTy, lstOf, h]
theorem bm_clr {μ : Store} {i : Nat} {xs : List D} (h : μ[i]? = some (.lst xs)) : bmS μ .clear (.cell i) [] = .ok .non (μ.set i (.lst [])) := by simp [bmS, h]
theorem bmT_getc {μ : Store} {i : Nat} {t : Bool} {kvs : List (D × D)} (h : μ[i]? = some (.dic t kvs)) : bmTy μ .get (.cell i) = true := by simp [bmTy, dicOf, h]
theorem bm_get1 {μ : Store} {d : D} {t : Bool} {kvs : List (D × D)} (h : dicOf μ d = some (t, kvs)) {k : D} (hk : keyB t k = true) : bmS μ .get d [k] = .ok ((kfind kvs k).getD .non) μ := by simp [bmS, h, hk]
theorem bm_get2 {μ : Store} {d e : D} {t : Bool} {kvs : List (D × D)} (h : dicOf μ d = some (t, kvs)) {k : D} (hk : keyB t k = true) : bmS μ .get d [k, e] = .ok ((kfind kvs k).getD e) μ := by simp [bmS, h, hk]
theorem setIx_d {μ : Store} {i : Nat} {t : Bool} {kvs : List (D × D)} (h : μ[i]? = some (.dic t kvs)) {k : D} (hk : keyB t k = true) (hz : sz (kvs.length + 1) = true) (v : D) : setIx μ (.cell i) k v = some (μ.set i (.dic t (kput kvs k v))) := by simp [setIx, h, hk, hz]
theorem setIx_l {μ : Store} {c : Nat} {xs : List D} (h : μ[c]? = some (.lst xs)) {j : Nat} (hj : j < xs.length) (v : D) : setIx μ (.cell c) (.int (j : Int)) v = some (μ.set c (.lst (xs.set j v))) := by
  have e : ixN xs.length (j : Int) = some j := Evl.ixN_nat hj
  simp [setIx, h, e]
theorem setFld_i {fok : List (List Nat)} {μ : Store} {i c f : Nat} {fs : List (Nat × D)} (h : μ[i]? = some (.ins c fs)) (hf : fokB fok c f = true) (hl : fs.length < 900) (v : D) : setFld fok μ (.cell i) f v = some (μ.set i (.ins c (fput fs f v))) := by simp [setFld, h, hf, hl]
@[simp] theorem keyB_fs (x : Str) : keyB false (.str x) = true := (rfl)
@[simp] theorem keyB_fi (i : Int) : keyB false (.int i) = true := (rfl)
@[simp] theorem keyB_t2 (x y : Str) : keyB true (.tup [.str x, .str y]) = true := (rfl)
@[simp] theorem keyB_t3 (x : Str) (i : Int) : keyB true (.tup [.str x, .int i]) = true := (rfl)
end Co
/-! ### views of cells, as equations -/
namespace Co
open PySem L2
def cL : Option Cell → Option (List D)
  | some (.lst xs) => some xs
  | _ => none
def cD : Option Cell → Option (Bool × List (D × D))
  | some (.dic t kvs) => some (t, kvs)
  | some (.ldic t kvs) => some (t, kvs)
  | _ => none
def cI : Option Cell → Option (Nat × List (Nat × D))
  | some (.ins c fs) => some (c, fs)
  | _ => none
section
variable (μ : Store) (i c : Nat) (xs : List D) (t : Bool) (kvs : List (D × D)) (fs : List (Nat × D)) (d e : D)
@[simp] theorem cL_lst : cL (some (.lst xs)) = some xs := (rfl)
@[simp] theorem cL_dic : cL (some (.dic t kvs)) = none := (rfl)
@[simp] theorem cL_ins : cL (some (.ins c fs)) = none := (rfl)
@[simp] theorem cD_lst : cD (some (.lst xs)) = none := (rfl)
@[simp] theorem cD_dic : cD (some (.dic t kvs)) = some (t, kvs) := (rfl)
@[simp] theorem cD_ins : cD (some (.ins c fs)) = none := (rfl)
@[simp] theorem cI_lst : cI (some (.lst xs)) = none := (rfl)
@[simp] theorem cI_dic : cI (some (.dic t kvs)) = none := (rfl)
@[simp] theorem cI_ins : cI (some (.ins c fs)) = some (c, fs) := (rfl)
@[simp] theorem lstOf_v : lstOf μ (.cell i) = cL μ[i]? := by
  cases h : μ[i]? with
  | none => simp [lstOf, cL, h]
  | some c => cases c <;> simp [lstOf, cL, h]
@[simp] theorem seqOf_v : seqOf μ (.cell i) = cL μ[i]? := lstOf_v μ i
@[simp] theorem dicOf_v : dicOf μ (.cell i) = cD μ[i]? := by
  cases h : μ[i]? with
  | none => simp [dicOf, cD, h]
  | some c => cases c <;> simp [dicOf, cD, h]
@[simp] theorem insOf_v : insOf μ (.cell i) = cI μ[i]? := by
  cases h : μ[i]? with
  | none => simp [insOf, cI, h]
  | some c => cases c <;> simp [insOf, cI, h]
def kIxC (o : Option (Bool × List (D × D))) (l : Option (List D)) (k : D) (μ : Store) : RD := match o with
  | some (t, kvs) => if keyB t k then ofO (kfind kvs k) μ else .bad
  | none => match k with
    | .int i => match l with
      | some xs => ofO (atI xs i) μ
      | none => .bad
    | _ => .bad
@[simp] theorem ixS_v : ixS μ (.cell i) e = kIxC (cD μ[i]?) (cL μ[i]?) e μ := by
  cases h : cD μ[i]? with
  | none => cases e <;> cases h2 : cL μ[i]? <;> simp [ixS, kIxC, h, h2]
  | some p => simp [ixS, kIxC, h]
@[simp] theorem kIxC_l (j : Int) : kIxC none (some xs) (.int j) μ = ofO (atI xs j) μ := (rfl)
@[simp] theorem kIxC_d (l : Option (List D)) : kIxC (some (t, kvs)) l e μ = if keyB t e then ofO (kfind kvs e) μ else .bad := (rfl)
@[simp] theorem len_v : biS μ .len [.cell i] = ofO ((cL μ[i]?).map fun xs => .int xs.length) μ := by
  simp only [biS, lenOf, seqOf_v]
  cases cL μ[i]? <;> rfl
def kApp (o : Option (List D)) (d : D) (i : Nat) (μ : Store) : RD := match o with
  | some xs => if sz (xs.length + 1) then .ok .non (μ.set i (.lst (xs ++ [d]))) else .bad
  | none => .bad
@[simp] theorem kApp_some : kApp (some xs) d i μ = if sz (xs.length + 1) then .ok .non (μ.set i (.lst (xs ++ [d]))) else .bad := (rfl)
@[simp] theorem app_v : bmS μ .append (.cell i) [d] = kApp (cL μ[i]?) d i μ := by
  cases h : μ[i]? with
  | none => simp [bmS, kApp, cL, h]
  | some c => cases c <;> simp [bmS, kApp, cL, h]
@[simp] theorem bmTy_app_v : bmTy μ .append (.cell i) = (cL μ[i]?).isSome := by simp [bmTy]
@[simp] theorem bmTy_ext_v : bmTy μ .extend (.cell i) = (cL μ[i]?).isSome := by simp [bmTy]
@[simp] theorem bmTy_idx_v : bmTy μ .index (.cell i) = (cL μ[i]?).isSome := by simp [bmTy]
@[simp] theorem bmTy_get_v : bmTy μ .get (.cell i) = (cD μ[i]?).isSome := by simp [bmTy]
def kExt (o l : Option (List D)) (i : Nat) (μ : Store) : RD := match o, l with
  | some xs, some ys => if sz (xs.length + ys.length) then .ok .non (μ.set i (.lst (xs ++ ys))) else .bad
  | _, _ => .bad
@[simp] theorem kExt_some (ys : List D) : kExt (some xs) (some ys) i μ = if sz (xs.length + ys.length) then .ok .non (μ.set i (.lst (xs ++ ys))) else .bad := (rfl)
@[simp] theorem ext_v : bmS μ .extend (.cell i) [d] = kExt (cL μ[i]?) (lstOf μ d) i μ := by
  cases h : μ[i]? with
  | none => simp [bmS, kExt, cL, h]
  | some c => cases c <;> cases h2 : lstOf μ d <;> simp [bmS, kExt, cL, h, h2]
def kGet (o : Option (Bool × List (D × D))) (k e : D) (μ : Store) : RD := match o with
  | some (t, kvs) => if keyB t k then .ok ((kfind kvs k).getD e) μ else .bad
  | none => .bad
@[simp] theorem kGet_some (k : D) : kGet (some (t, kvs)) k e μ = if keyB t k then .ok ((kfind kvs k).getD e) μ else .bad := (rfl)
@[simp] theorem get1_v (k : D) : bmS μ .get d [k] = kGet (dicOf μ d) k .non μ := by
  cases h : dicOf μ d <;> simp [bmS, kGet, h]
@[simp] theorem get2_v (k : D) : bmS μ .get d [k, e] = kGet (dicOf μ d) k e μ := by
  cases h : dicOf μ d <;> simp [bmS, kGet, h]
def kSetIx (o : Option Cell) (c : Nat) (k v : D) (μ : Store) : Option Store := match o with
    | some (.lst xs) => match k with
      | .int i => (ixN xs.length i).map fun j => μ.set c (.lst (xs.set j v))
      | _ => none
    | some (.dic t kvs) => if keyB t k && sz (kvs.length + 1) then some (μ.set c (.dic t (kput kvs k v))) else none
    | _ => none
@[simp] theorem setIx_v (k v : D) : setIx μ (.cell c) k v = kSetIx μ[c]? c k v μ := by
  cases h : μ[c]? with
  | none => simp [setIx, kSetIx, h]
  | some c => cases c <;> cases k <;> simp [setIx, kSetIx, h]
@[simp] theorem kSetIx_d (k v : D) : kSetIx (some (.dic t kvs)) c k v μ = if keyB t k && sz (kvs.length + 1) then some (μ.set c (.dic t (kput kvs k v))) else none := (rfl)
@[simp] theorem kSetIx_l (j : Int) (v : D) : kSetIx (some (.lst xs)) c (.int j) v μ = (ixN xs.length j).map fun j => μ.set c (.lst (xs.set j v)) := (rfl)
def kSetFld (fok : List (List Nat)) (o : Option (Nat × List (Nat × D))) (c f : Nat) (v : D) (μ : Store) : Option Store := match o with
  | some (k, fs) => if fokB fok k f && decide (fs.length < 900) then some (μ.set c (.ins k (fput fs f v))) else none
  | none => none
@[simp] theorem kSetFld_some (fok : List (List Nat)) (k f : Nat) (v : D) : kSetFld fok (some (k, fs)) c f v μ = if fokB fok k f && decide (fs.length < 900) then some (μ.set c (.ins k (fput fs f v))) else none := (rfl)
@[simp] theorem setFld_v (fok : List (List Nat)) (f : Nat) (v : D) : setFld fok μ (.cell c) f v = kSetFld fok (cI μ[c]?) c f v μ := by
  cases h : μ[c]? with
  | none => simp [setFld, kSetFld, cI, h]
  | some c => cases c <;> simp [setFld, kSetFld, cI, h]
def kFld3 (fok : List (List Nat)) (o : Option (Nat × List (Nat × D))) (f : Nat) (μ : Store) : RD := fldS fok μ o f
@[simp] theorem fldS_v (fok : List (List Nat)) (f : Nat) : fldS fok μ (some (c, fs)) f = if fokB fok c f then ofO (fget fs f) μ else .bad := (rfl)
def cK : Option Cell → Option Kd
  | some (.lst _) => some (.ty "list")
  | some (.dic _ _) => some (.ty "dict")
  | some (.ins c _) => some (.own c)
  | _ => none
@[simp] theorem cK_lst : cK (some (.lst xs)) = some (.ty "list") := (rfl)
@[simp] theorem cK_dic : cK (some (.dic t kvs)) = some (.ty "dict") := (rfl)
@[simp] theorem cK_ins : cK (some (.ins c fs)) = some (.own c) := (rfl)
@[simp] theorem kindOf_v : kindOf μ (.cell i) = cK μ[i]? := by
  cases h : μ[i]? with
  | none => simp [kindOf, cK, h]
  | some c => cases c <;> simp [kindOf, cK, h]
def kFrz2 (i j : Nat) (env : Env) (μ : Store) : Option Cell → RS
  | some (.lst xs) => .ok (.nx, env.set i (some (.lst xs))) (μ.set j .dead)
  | some (.dic t kvs) => .ok (.nx, env.set i (some (.dic t kvs))) (μ.set j .dead)
  | some (.ins c fs) => .ok (.nx, env.set i (some (.ins c fs))) (μ.set j .dead)
  | _ => .bad
def kFrz (i : Nat) (env : Env) (μ : Store) : Option D → RS
  | some (.cell j) => kFrz2 i j env μ μ[j]?
  | some _ => .ok (.nx, env) μ
  | none => .bad
section
variable (P : Prog) (call : Nat → List D → Store → RD) (env : Env) (j : Nat)
@[simp] theorem evS_frz : evS P call (.frz i) env μ = kFrz i env μ (getV env i) := by
  cases h : getV env i with
  | none => simp [evS, kFrz, h]
  | some d =>
    cases d <;> first | (simp [evS, kFrz, h]; done) | skip
    rename_i j
    cases h2 : μ[j]? with
    | none => simp [evS, kFrz, kFrz2, h, thawD, thaw, h2]
    | some c => cases c <;> simp [evS, kFrz, kFrz2, h, thawD, thaw, h2]
@[simp] theorem kFrz_cell : kFrz i env μ (some (.cell j)) = kFrz2 i j env μ μ[j]? := (rfl)
@[simp] theorem kFrz_lst : kFrz i env μ (some (.lst xs)) = .ok (.nx, env) μ := (rfl)
@[simp] theorem kFrz_dic : kFrz i env μ (some (.dic t kvs)) = .ok (.nx, env) μ := (rfl)
@[simp] theorem kFrz2_lst : kFrz2 i j env μ (some (.lst xs)) = .ok (.nx, env.set i (some (.lst xs))) (μ.set j .dead) := (rfl)
@[simp] theorem kFrz2_dic : kFrz2 i j env μ (some (.dic t kvs)) = .ok (.nx, env.set i (some (.dic t kvs))) (μ.set j .dead) := (rfl)
@[simp] theorem kFrz2_ins : kFrz2 i j env μ (some (.ins c fs)) = .ok (.nx, env.set i (some (.ins c fs))) (μ.set j .dead) := (rfl)
end
end
end Co
namespace Co
open PySem L2
def kInC (o : Option (Bool × List (D × D))) (l : Option (List D)) (d : D) : Option Bool := match o with
  | some (t, kvs) => if keyB t d then some (kfind kvs d).isSome else none
  | none => match l with
    | some xs => if d.dat 60 && D.dats 59 xs then some (xs.any fun x => x.eqv d) else none
    | none => none
@[simp] theorem inS_v (μ : Store) (d : D) (j : Nat) : inS μ d (.cell j) = kInC (cD μ[j]?) (cL μ[j]?) d := by
  cases h : cD μ[j]? with
  | some p => simp [inS, kInC, h]
  | none => cases h2 : cL μ[j]? <;> cases d <;> simp [inS, kInC, h, h2]
@[simp] theorem kInC_d (t : Bool) (kvs : List (D × D)) (l : Option (List D)) (d : D) : kInC (some (t, kvs)) l d = if keyB t d then some (kfind kvs d).isSome else none := (rfl)
@[simp] theorem kInC_l (xs : List D) (d : D) : kInC none (some xs) d = if d.dat 60 && D.dats 59 xs then some (xs.any fun x => x.eqv d) else none := (rfl)
@[simp] theorem inS_dic (μ : Store) (t : Bool) (kvs : List (D × D)) (d : D) : inS μ d (.dic t kvs) = if keyB t d then some (kfind kvs d).isSome else none := (rfl)
@[simp] theorem kfind_nil (d : D) : kfind [] d = none := (rfl)
end Co
namespace Co
open PySem L2
theorem binS_addt (μ : Store) (xs ys : List D) (h : sz (xs.length + ys.length) = true) : binS μ .add (.tup xs) (.tup ys) = .ok (.tup (xs ++ ys)) μ := by simp [binS, h]
end Co

set_option linter.all false
set_option maxRecDepth 100000
/-! Cm2: loops and comprehensions, for proofs. -/
namespace Co
open PySem L2
/-! ### cells that go -/
theorem keeps_set {n : Nat} : ∀ {μ μ' : Store} (i : Nat) {c : Cell}, keeps n μ μ' = true → c.lt n = true → keeps n μ (μ'.set i c) = true
  | [], _, _, _, _, _ => rfl
  | _ :: _, [], _, _, h, _ => by cases h
  | a :: r, b :: s, 0, c, h, hc => by
    have h' : ((decide (b = a) || b.lt n) && keeps n r s) = true := h
    rw [Bool.and_eq_true] at h'
    show ((decide (c = a) || c.lt n) && keeps n r s) = true
    rw [hc, h'.2]
    simp
  | a :: r, b :: s, i + 1, c, h, hc => by
    have h' : ((decide (b = a) || b.lt n) && keeps n r s) = true := h
    rw [Bool.and_eq_true] at h'
    show ((decide (b = a) || b.lt n) && keeps n r (s.set i c)) = true
    rw [h'.1, keeps_set i h'.2 hc]
    rfl
theorem keeps_more {n : Nat} : ∀ {μ μ' : Store} (t : Store), keeps n μ μ' = true → keeps n μ (μ' ++ t) = true
  | [], _, _, _ => rfl
  | _ :: _, [], _, h => by cases h
  | a :: r, b :: s, t, h => by
    have h' : ((decide (b = a) || b.lt n) && keeps n r s) = true := h
    rw [Bool.and_eq_true] at h'
    show ((decide (b = a) || b.lt n) && keeps n r (s ++ t)) = true
    rw [h'.1, keeps_more t h'.2]
    rfl
theorem leave_drop {μ μ' t : Store} {d : D} (hl : μ'.length = μ.length) (hk : keeps μ.length μ μ' = true) (hd : d.lt μ.length = true) : leave μ (.ok d (μ' ++ t)) = .ok d μ' := by
  unfold leave
  simp only [hd, keeps_more t hk, Bool.and_self, if_true]
  rw [← hl, List.take_left']
  rfl
/-- a def's local cells go -/
theorem leave_new (μ t : Store) {d : D} (hd : d.lt μ.length = true) : leave μ (.ok d (μ ++ t)) = .ok d μ := leave_ok hd
/-! ### for -/
def oLt (n : Nat) : Option D → Bool
  | some d => d.lt n
  | none => true
@[simp] theorem oLt_some (n : Nat) (d : D) : oLt n (some d) = d.lt n := (rfl)
@[simp] theorem oLt_none (n : Nat) : oLt n none = true := (rfl)
/-- what stands behind a turn -/
def tEnd (μ0 : Store) (clr : List Nat) (env : Env) (μ : Store) : Env × Store :=
  (wipeE env clr, if (wipeE env clr).all (oLt μ0.length) && keeps μ0.length μ0 μ then μ.take μ0.length else μ)
theorem turnEnd_eq (μ0 : Store) (clr : List Nat) (env : Env) (μ : Store) (k : Env → Store → RS) : turnEnd μ0.length μ0 clr env μ k = k (tEnd μ0 clr env μ).1 (tEnd μ0 clr env μ).2 := by
  have e : turnEnd μ0.length μ0 clr env μ k = if ((wipeE env clr).all (oLt μ0.length) && keeps μ0.length μ0 μ) = true then k (wipeE env clr) (μ.take μ0.length) else k (wipeE env clr) μ := rfl
  rw [e]
  unfold tEnd
  split <;> rfl
theorem tEnd_len {μ0 : Store} {clr : List Nat} {env : Env} {μ : Store} (h : μ.length = μ0.length) : tEnd μ0 clr env μ = (wipeE env clr, μ) := by
  unfold tEnd
  have e : μ.take μ0.length = μ := by rw [← h]; exact List.take_length
  rw [e]
  split <;> rfl
theorem tEnd_drop {μ0 μ' t : Store} {clr : List Nat} {env : Env} (hl : μ'.length = μ0.length) (hk : keeps μ0.length μ0 μ' = true) (he : (wipeE env clr).all (oLt μ0.length) = true) : tEnd μ0 clr env (μ' ++ t) = (wipeE env clr, μ') := by
  unfold tEnd
  rw [if_pos (by rw [he, keeps_more t hk]; rfl), ← hl, List.take_left']
  rfl
theorem forL_fn {body : Env → Store → RS} {tg : TGT} {stay : Store → Bool} {clr : List Nat} (st : Nat → Env × Store) : ∀ (xs : List D) (j0 : Nat), (∀ j, j ≤ xs.length → stay (st (j0 + j)).2 = true) →
    (∀ j (h : j < xs.length), ∃ env1 env2 μ2, asgT tg xs[j] (st (j0 + j)).1 = some env1 ∧ body env1 (st (j0 + j)).2 = .ok (.nx, env2) μ2 ∧ tEnd (st (j0 + j)).2 clr env2 μ2 = st (j0 + (j + 1))) →
    forL body tg stay clr xs (st j0).1 (st j0).2 = .ok (.nx, (st (j0 + xs.length)).1) (st (j0 + xs.length)).2
  | [], j0, hs, _ => by
    have h := hs 0 (Nat.le_refl _)
    unfold forL
    rw [Nat.add_zero] at h
    rw [if_pos h]
    rfl
  | x :: r, j0, hs, ht => by
    have h := hs 0 (Nat.zero_le _)
    rw [Nat.add_zero] at h
    obtain ⟨env1, env2, μ2, h1, h2, h3⟩ := ht 0 (by simp)
    have h1' : asgT tg x (st j0).1 = some env1 := h1
    have h2' : body env1 (st j0).2 = .ok (.nx, env2) μ2 := h2
    have h3' : tEnd (st j0).2 clr env2 μ2 = st (j0 + 1) := h3
    unfold forL
    rw [if_pos h, h1']
    simp only [h2']
    rw [turnEnd_eq, h3']
    have ih := forL_fn st r (j0 + 1) (fun j hj => by
      have := hs (j + 1) (by simp; omega)
      rwa [show j0 + (j + 1) = j0 + 1 + j by omega] at this) (fun j hj => by
      have := ht (j + 1) (by simp; omega)
      simp only [List.getElem_cons_succ] at this
      rw [show j0 + (j + 1) = j0 + 1 + j by omega, show j0 + (j + 1 + 1) = j0 + 1 + (j + 1) by omega] at this
      exact this)
    rw [ih, List.length_cons, show j0 + 1 + r.length = j0 + (r.length + 1) by omega]
theorem forS_fn {body : Env → Store → RS} {tg : TGT} {k : ITK} {ds xs : List D} {clr : List Nat} {env : Env} {μ : Store} (st : Nat → Env × Store) (hx : itemsOf μ k ds = some xs) (h0 : st 0 = (env, μ))
    (hs : ∀ j, j ≤ xs.length → stayB μ k ds xs (st j).2 = true)
    (ht : ∀ j (h : j < xs.length), ∃ env1 env2 μ2, asgT tg xs[j] (st j).1 = some env1 ∧ body env1 (st j).2 = .ok (.nx, env2) μ2 ∧ tEnd (st j).2 clr env2 μ2 = st (j + 1)) :
    forS body tg k ds clr env μ = .ok (.nx, (st xs.length).1) (st xs.length).2 := by
  unfold forS
  rw [hx]
  simp only
  have h := forL_fn (body := body) (tg := tg) (stay := stayB μ k ds xs) (clr := clr) st xs 0 (fun j hj => by rw [Nat.zero_add]; exact hs j hj) (fun j hj => by
    have := ht j hj
    rw [Nat.zero_add, Nat.zero_add]
    exact this)
  rw [h0] at h
  rw [h, Nat.zero_add]
/-! ### what is walked -/
section
variable (μ μ' : Store) (xs ys : List D) (a b n : Int)
@[simp] theorem it_lst : itemsOf μ .seq [.lst xs] = some xs := (rfl)
@[simp] theorem it_tup : itemsOf μ .seq [.tup xs] = some xs := (rfl)
@[simp] theorem it_str (x : Str) : itemsOf μ .seq [.str x] = some (signs x) := (rfl)
@[simp] theorem it_enum : itemsOf μ .enum [.lst xs] = some (enumD 0 xs) := (rfl)
@[simp] theorem it_rev : itemsOf μ .rev [.lst xs] = some xs.reverse := (rfl)
theorem it_rng1 (h : inR n = true) : itemsOf μ .rng1 [.int n] = some ((List.range n.toNat).map fun (i : Nat) => D.int (i : Int)) := if_pos h
@[simp] theorem stay_lst : stayB μ .seq [.lst xs] xs μ' = true := by simp [stayB, tagOf]
@[simp] theorem stay_tup : stayB μ .seq [.tup xs] xs μ' = true := by simp [stayB, tagOf]
@[simp] theorem stay_str (x : Str) : stayB μ .seq [.str x] (signs x) μ' = true := by simp [stayB, tagOf]
@[simp] theorem stay_enum : stayB μ .enum [.lst xs] (enumD 0 xs) μ' = true := by simp [stayB, tagOf]
@[simp] theorem stay_rev : stayB μ .rev [.lst xs] xs.reverse μ' = true := by simp [stayB, tagOf]
theorem stay_rng1 (h : inR n = true) : stayB μ .rng1 [.int n] ((List.range n.toNat).map fun (i : Nat) => D.int (i : Int)) μ' = true := by
  simp [stayB, it_rng1 _ _ h, tagOf, dicOf]
@[simp] theorem walk_lst : walkedC μ .seq [.lst xs] = none := (rfl)
@[simp] theorem walk_tup : walkedC μ .seq [.tup xs] = none := (rfl)
@[simp] theorem walk_str (x : Str) : walkedC μ .seq [.str x] = none := (rfl)
@[simp] theorem walk_enum (d : D) : walkedC μ .enum [d] = none := (rfl)
@[simp] theorem walk_rev (d : D) : walkedC μ .rev [d] = none := (rfl)
@[simp] theorem walk_rng1 (d : D) : walkedC μ .rng1 [d] = none := (rfl)
@[simp] theorem walk_rng2 (ds : List D) : walkedC μ .rng2 ds = none := (rfl)
@[simp] theorem walk_zip (ds : List D) : walkedC μ .zip ds = none := (rfl)
theorem walk_cl {i : Nat} (h : μ[i]? = some (.lst xs)) : walkedC μ .seq [.cell i] = none := by simp [walkedC, h]
theorem it_cl {i : Nat} (h : μ[i]? = some (.lst xs)) : itemsOf μ .seq [.cell i] = some xs := by
  have e : seqOf μ (.cell i) = some xs := lstOf_c h
  simp [itemsOf, dicOf_cl h, e]
theorem it_revc {i : Nat} (h : μ[i]? = some (.lst xs)) : itemsOf μ .rev [.cell i] = some xs.reverse := by simp [itemsOf, lstOf_c h]
end
/-! ### comprehensions whose parts change nothing -/
theorem lcL_map {cond elt : Env → Store → RD} {tg : TGT} {stay : Store → Bool} (μ : Store) (f : D → D) : ∀ (xs acc : List D) (env : Env), (∀ ys, stay (μ ++ [.lst ys]) = true) → acc.length + xs.length ≤ 1000000 →
    (∀ x ∈ xs, ∃ env', asgT tg x env = some env' ∧ ∀ ys, cond env' (μ ++ [.lst ys]) = .ok (.bl true) (μ ++ [.lst ys]) ∧ elt env' (μ ++ [.lst ys]) = .ok (f x) (μ ++ [.lst ys])) →
    lcL cond elt tg stay μ.length xs env (μ ++ [.lst acc]) = .ok () (μ ++ [.lst (acc ++ xs.map f)])
  | [], acc, env, hs, _, _ => by
    unfold lcL
    rw [if_pos (hs acc)]
    simp
  | x :: r, acc, env, hs, hl, h => by
    obtain ⟨env', h1, h2⟩ := h x List.mem_cons_self
    obtain ⟨h3, h4⟩ := h2 acc
    have hz : sz (acc.length + 1) = true := sz_of (by simp at hl; omega)
    unfold lcL
    rw [if_pos (hs acc), h1]
    simp only [h3, Res.bind_ok, truth_bl, ofO_some, h4]
    have e : bmS (μ ++ [Cell.lst acc]) .append (.cell μ.length) [f x] = .ok .non (μ ++ [.lst (acc ++ [f x])]) := by
      simp [hz]
    rw [e]
    simp only
    rw [lcL_map μ f r (acc ++ [f x]) env hs (by simp at hl ⊢; omega) (fun y hy => h y (List.mem_cons_of_mem _ hy))]
    simp
theorem lcS_map {cond elt : Env → Store → RD} {tg : TGT} {own : List Nat} {k : ITK} {ds xs : List D} {env : Env} {μ : Store} (f : D → D) (hx : itemsOf μ k ds = some xs) (hs : ∀ ys, stayB μ k ds xs (μ ++ [.lst ys]) = true) (hl : xs.length ≤ 1000000)
    (h : ∀ x ∈ xs, ∃ env', asgT tg x (wipeE env own) = some env' ∧ ∀ ys, cond env' (μ ++ [.lst ys]) = .ok (.bl true) (μ ++ [.lst ys]) ∧ elt env' (μ ++ [.lst ys]) = .ok (f x) (μ ++ [.lst ys])) (hlt : D.lts μ.length (xs.map f) = true) :
    lcS cond elt tg own k ds true env μ = .ok (.lst (xs.map f)) μ := by
  unfold lcS
  rw [hx]
  simp only
  rw [lcL_map μ f xs [] (wipeE env own) hs (by simpa using hl) h]
  simp [thaw, leave_new, hlt]
theorem lcS_mapC {cond elt : Env → Store → RD} {tg : TGT} {own : List Nat} {k : ITK} {ds xs : List D} {env : Env} {μ : Store} (f : D → D) (hx : itemsOf μ k ds = some xs) (hs : ∀ ys, stayB μ k ds xs (μ ++ [.lst ys]) = true) (hl : xs.length ≤ 1000000)
    (h : ∀ x ∈ xs, ∃ env', asgT tg x (wipeE env own) = some env' ∧ ∀ ys, cond env' (μ ++ [.lst ys]) = .ok (.bl true) (μ ++ [.lst ys]) ∧ elt env' (μ ++ [.lst ys]) = .ok (f x) (μ ++ [.lst ys])) :
    lcS cond elt tg own k ds false env μ = .ok (.cell μ.length) (μ ++ [.lst (xs.map f)]) := by
  unfold lcS
  rw [hx]
  simp only
  rw [lcL_map μ f xs [] (wipeE env own) hs (by simpa using hl) h]
  simp
/-! ### while -/
theorem whileL_fn {cond : Env → Store → RD} {body : Env → Store → RS} {clr : List Nat} (st : Nat → Env × Store) : ∀ (m j0 n : Nat), m < n →
    (∀ j, j < m → cond (st (j0 + j)).1 (st (j0 + j)).2 = .ok (.bl true) (st (j0 + j)).2 ∧ ∃ env2 μ2, body (st (j0 + j)).1 (st (j0 + j)).2 = .ok (.nx, env2) μ2 ∧ tEnd (st (j0 + j)).2 clr env2 μ2 = st (j0 + (j + 1))) →
    cond (st (j0 + m)).1 (st (j0 + m)).2 = .ok (.bl false) (st (j0 + m)).2 →
    whileL cond body clr n (st j0).1 (st j0).2 = .ok (.nx, (st (j0 + m)).1) (st (j0 + m)).2
  | 0, j0, n + 1, _, _, he => by
    rw [Nat.add_zero] at he ⊢
    unfold whileL
    rw [he]
    simp
  | m + 1, j0, n + 1, hn, ht, he => by
    obtain ⟨h1, env2, μ2, h2, h3⟩ := ht 0 (by omega)
    rw [Nat.add_zero] at h1 h2 h3
    unfold whileL
    rw [h1]
    simp only [lift_ok, truth_bl, h2]
    rw [turnEnd_eq, h3]
    have ih := whileL_fn (cond := cond) (body := body) (clr := clr) st m (j0 + 1) n (by omega) (fun j hj => by
      have := ht (j + 1) (by omega)
      rw [show j0 + (j + 1) = j0 + 1 + j by omega, show j0 + (j + 1 + 1) = j0 + 1 + (j + 1) by omega] at this
      exact this) (by rw [show j0 + 1 + m = j0 + (m + 1) by omega]; exact he)
    rw [show j0 + (0 + 1) = j0 + 1 by omega, ih, show j0 + 1 + m = j0 + (m + 1) by omega]
end Co
namespace Co
theorem set_self' {α : Type} {l : List α} {i : Nat} {a : α} (h : l[i]? = some a) : l.set i a = l := by
  apply List.ext_getElem?
  intro j
  by_cases e : i = j
  · subst e
    rw [List.getElem?_set_self (List.getElem?_eq_some_iff.mp h).1, h]
  · rw [List.getElem?_set_ne e]
theorem get_set_self {α : Type} {l : List α} {i : Nat} {a b : α} (h : l[i]? = some a) : (l.set i b)[i]? = some b := List.getElem?_set_self (List.getElem?_eq_some_iff.mp h).1
theorem get_app_len {α : Type} (l : List α) (a : α) (r : List α) : (l ++ a :: r)[l.length]? = some a := by simp
theorem get_app_lt {α : Type} {l : List α} {i : Nat} {a : α} (h : l[i]? = some a) (r : List α) : (l ++ r)[i]? = some a := by
  rw [List.getElem?_append_left (List.getElem?_eq_some_iff.mp h).1]
  exact h
theorem set_app_len {α : Type} (l : List α) (a b : α) (r : List α) : (l ++ a :: r).set l.length b = l ++ b :: r := by simp
theorem lt_of_get {α : Type} {l : List α} {i : Nat} {a : α} (h : l[i]? = some a) : i < l.length := (List.getElem?_eq_some_iff.mp h).1
theorem map_range_succ {α : Type} (f : Nat → α) (n : Nat) : (List.range (n + 1)).map f = (List.range n).map f ++ [f n] := by simp [List.range_succ]
theorem inR_of {i : Int} (h0 : 0 ≤ i) (h1 : i ≤ 1000000) : inR i = true := decide_eq_true ⟨by omega, by omega⟩
end Co
namespace Co
open PySem L2
section
variable (P : Prog) (call : Nat → List D → Store → RD)
theorem frz_l {i j : Nat} {env : Env} {μ : Store} {xs : List D} (h : getV env i = some (.cell j)) (h2 : μ[j]? = some (.lst xs)) : evS P call (.frz i) env μ = .ok (.nx, env.set i (some (.lst xs))) (μ.set j .dead) := by
  simp [evS, h, thawD, thaw, h2]
theorem frz_d {i j : Nat} {env : Env} {μ : Store} {t : Bool} {kvs : List (D × D)} (h : getV env i = some (.cell j)) (h2 : μ[j]? = some (.dic t kvs)) : evS P call (.frz i) env μ = .ok (.nx, env.set i (some (.dic t kvs))) (μ.set j .dead) := by
  simp [evS, h, thawD, h2]
theorem for_none {k : ITK} {it : CE} {tg : TGT} {b : CS} {clr : List Nat} {env : Env} {μ μ1 : Store} {ds : List D} (h : evA P call it env μ = .ok ds μ1) (h2 : walkedC μ1 k ds = none) : evS P call (.for k it tg b clr) env μ = forS (evS P call b) tg k ds clr env μ1 := by
  simp [h, h2]
end
end Co
namespace Co
@[simp] theorem keeps_pre (n : Nat) : ∀ μ t t' : Store, keeps n (μ ++ t) (μ ++ t') = keeps n t t'
  | [], _, _ => rfl
  | c :: r, t, t' => by
    show ((decide (c = c) || c.lt n) && keeps n (r ++ t) (r ++ t')) = _
    rw [keeps_pre n r t t']
    simp
@[simp] theorem keeps_nil (n : Nat) (t : Store) : keeps n [] t = true := (rfl)
theorem keeps_c1 (n : Nat) {a b : Cell} {r s : Store} (h : b.lt n = true) (h2 : keeps n r s = true) : keeps n (a :: r) (b :: s) = true := by
  show ((decide (b = a) || b.lt n) && keeps n r s) = true
  rw [h, h2]
  simp
theorem keeps_c0 (n : Nat) {a : Cell} {r s : Store} (h2 : keeps n r s = true) : keeps n (a :: r) (a :: s) = true := by
  show ((decide (a = a) || a.lt n) && keeps n r s) = true
  rw [h2]
  simp
@[simp] theorem cell_lt_lst (n : Nat) (xs : List D) : (Cell.lst xs).lt n = D.lts n xs := (rfl)
@[simp] theorem cell_lt_dic (n : Nat) (t : Bool) (xs : List (D × D)) : (Cell.dic t xs).lt n = D.ltp n xs := (rfl)
@[simp] theorem cell_lt_ins (n c : Nat) (xs : List (Nat × D)) : (Cell.ins c xs).lt n = D.ltf n xs := (rfl)
@[simp] theorem cell_lt_dead (n : Nat) : (Cell.dead).lt n = true := (rfl)
end Co
namespace Co
open PySem L2
section
variable (P : Prog) (μ : Store)
def mlk (c m : Nat) : Option Nat := (P.mth.getD c []).lookup m
def kMethOf (m : Nat) : Option (Nat × List (Nat × D)) → Option Nat
  | some (c, _) => mlk P c m
  | none => none
@[simp] theorem methOf_v (m i : Nat) : methOf P μ m (.cell i) = kMethOf P m (cI μ[i]?) := by
  unfold methOf
  rw [insOf_v]
  cases cI μ[i]? <;> rfl
@[simp] theorem kMethOf_some (m c : Nat) (fs : List (Nat × D)) : kMethOf P m (some (c, fs)) = mlk P c m := (rfl)
@[simp] theorem methOf_i (m c : Nat) (fs : List (Nat × D)) : methOf P μ m (.ins c fs) = mlk P c m := (rfl)
theorem isiS_eq {sub : List (List Nat)} {d : D} {k : Kd} (h : kindOf μ d = some k) (hk : kdB sub.length k = true) (ts : List Ty) : isiS sub μ d ts = some (ts.any (isiK sub k)) := by
  induction ts with
  | nil => rfl
  | cons t ts ih =>
    rw [isiS_cons μ d sub k h hk, ih, List.any_cons]
    cases isiK sub k t <;> rfl
variable (call : Nat → List D → Store → RD)
theorem make_frz {c f : Nat} {ds : List D} {fs : List (Nat × D)} (hi : P.init.getD c none = some f) (h : call f (.cell μ.length :: ds) (μ ++ [.ins c []]) = .ok .non (μ ++ [.ins c fs])) (hl : D.ltf μ.length fs = true) : makeS P call c true ds μ = .ok (.ins c fs) μ := by
  unfold makeS
  rw [hi]
  simp only [h]
  simp [thaw, leave_new, hl]
theorem make_cell {c f : Nat} {ds : List D} {μ' : Store} (hi : P.init.getD c none = some f) (h : call f (.cell μ.length :: ds) (μ ++ [.ins c []]) = .ok .non μ') : makeS P call c false ds μ = .ok (.cell μ.length) μ' := by
  unfold makeS
  rw [hi]
  simp only [h]
  simp
end
end Co
namespace Co
open PySem L2
theorem kput_len (l : List (D × D)) (k v : D) : (kput l k v).length ≤ l.length + 1 := by
  unfold kput
  split
  · simp
  · simp
theorem kput_lt {n : Nat} {l : List (D × D)} {k v : D} (h : D.ltp n l = true) (hk : k.lt n = true) (hv : v.lt n = true) : D.ltp n (kput l k v) = true := by
  have all : ∀ l : List (D × D), D.ltp n l = l.all fun p => p.1.lt n && p.2.lt n := fun l => by
    induction l with
    | nil => rfl
    | cons x r ih => rw [ltp_cons, List.all_cons, ih]
  rw [all] at h ⊢
  unfold kput
  split
  · rw [List.all_map, List.all_eq_true]
    intro p hp
    have := List.all_eq_true.mp h p hp
    simp only [Function.comp]
    split
    · rw [Bool.and_eq_true] at this ⊢
      exact ⟨this.1, hv⟩
    · exact this
  · rw [List.all_append, h]
    simp [hk, hv]
theorem kfind_put (l : List (D × D)) (k v q : D) : kfind (kput l k v) q = if q = k then some v else kfind l q := by
  have nf : ∀ l : List (D × D), (l.any fun p => decide (p.1 = k)) = false → kfind l k = none := fun l => by
    induction l with
    | nil => intro _; rfl
    | cons x r ih =>
      intro h
      rw [List.any_cons, Bool.or_eq_false_iff, decide_eq_false_iff_not] at h
      unfold kfind
      rw [if_neg h.1]
      exact ih h.2
  have ap : ∀ l : List (D × D), (l.any fun p => decide (p.1 = k)) = false → kfind (l ++ [(k, v)]) q = if q = k then some v else kfind l q := fun l => by
    induction l with
    | nil =>
      intro _
      show (if k = q then some v else none) = _
      by_cases e : q = k
      · rw [if_pos e, if_pos e.symm]
      · rw [if_neg e, if_neg (Ne.symm e)]
        rfl
    | cons x r ih =>
      intro h
      rw [List.any_cons, Bool.or_eq_false_iff, decide_eq_false_iff_not] at h
      show kfind ((x.1, x.2) :: (r ++ [(k, v)])) q = _
      unfold kfind
      rw [ih h.2]
      by_cases e : x.1 = q
      · rw [if_pos e, if_pos e, if_neg fun z => h.1 (e.trans z)]
      · rw [if_neg e, if_neg e]
  have mp : ∀ l : List (D × D), (l.any fun p => decide (p.1 = k)) = true → kfind (l.map fun p => if p.1 = k then (p.1, v) else p) q = if q = k then some v else kfind l q := fun l => by
    induction l with
    | nil => intro h; cases h
    | cons x r ih =>
      intro h
      obtain ⟨a, b⟩ := x
      rw [List.any_cons, Bool.or_eq_true, decide_eq_true_eq] at h
      rw [List.map_cons]
      by_cases e : a = k
      · simp only [e, if_true]
        unfold kfind
        by_cases e2 : k = q
        · rw [if_pos e2, if_pos e2.symm]
        · rw [if_neg e2, if_neg e2, if_neg (Ne.symm e2)]
          cases hr : r.any fun p => decide (p.1 = k) with
          | true =>
            rw [ih hr, if_neg (Ne.symm e2)]
          | false =>
            have er : (r.map fun p => if p.1 = k then (p.1, v) else p) = r := by
              conv => rhs; rw [← List.map_id r]
              refine List.map_congr_left fun p hp => ?_
              have := List.any_eq_false.mp hr p hp
              rw [if_neg (by simpa using this)]
              rfl
            rw [er]
      · have hr : (r.any fun p => decide (p.1 = k)) = true := h.resolve_left e
        simp only [if_neg e]
        unfold kfind
        rw [ih hr]
        by_cases e2 : a = q
        · rw [if_pos e2, if_pos e2, if_neg fun z => e (e2.trans z)]
        · rw [if_neg e2, if_neg e2]
  unfold kput
  split
  · exact mp l (by assumption)
  · rename_i h
    exact ap l (Bool.eq_false_iff.mpr h)
end Co
namespace Co
theorem keeps_cons (n : Nat) (a b : Cell) (r s : Store) : keeps n (a :: r) (b :: s) = ((decide (b = a) || b.lt n) && keeps n r s) := rfl
/-- what is handed on outlives the call -/
theorem leave_stay {μ μ' : Store} {d : D} (h : keeps μ.length μ μ' = false) : leave μ (.ok d μ') = .ok d μ' := by
  unfold leave
  simp only [h, Bool.and_false, Bool.false_eq_true, if_false]
theorem leave_val {μ μ' : Store} {d : D} (h : d.lt μ.length = false) : leave μ (.ok d μ') = .ok d μ' := by
  unfold leave
  simp only [h, Bool.false_and, Bool.false_eq_true, if_false]
end Co
namespace Co
open PySem L2
@[simp] theorem forS_nil (body : Env → Store → RS) (tg : TGT) (clr : List Nat) (env : Env) (μ : Store) : forS body tg .seq [.lst []] clr env μ = .ok (.nx, env) μ := by
  unfold forS
  simp [forL]
theorem forS_revc (body : Env → Store → RS) (tg : TGT) (clr : List Nat) (env : Env) (μ : Store) (j : Nat) (h : μ[j]? = some (.lst [])) : forS body tg .rev [.cell j] clr env μ = .ok (.nx, env) μ := by
  unfold forS
  rw [it_revc _ _ h]
  simp [forL, stayB, it_revc _ _ h]
end Co
namespace Co
open PySem L2
theorem stay_cl {μ μ' : Store} {j : Nat} {xs : List D} (h : μ[j]? = some (.lst xs)) (h' : μ'[j]? = some (.lst xs)) : stayB μ .seq [.cell j] xs μ' = true := by
  simp [stayB, it_cl _ _ h', tagOf, h, h']
end Co

set_option linter.all false
set_option maxRecDepth 100000
namespace Co
open PySem L2
section
variable (P : Prog) (call : Nat → List D → Store → RD)
def mTry (els : CS) : RS → RS
  | .ok (.nx, env') μ' => evS P call els env' μ'
  | .ok (.rt d, env') μ' => .ok (.rt d, env') μ'
  | .ok (.bk, env') μ' => .ok (.bk, env') μ'
  | .ok (.ct, env') μ' => .ok (.ct, env') μ'
  | .ex _ _ => .bad
  | .bad => .bad
theorem evS_try (b : CS) (cs : List Nat) (nm : Option Nat) (h els : CS) (env : Env) (μ : Store) : evS P call (.try b cs nm h els) env μ = mTry P call els (evS P call b env μ) := by
  show (match evS P call b env μ with
    | .ok (.nx, env') μ' => evS P call els env' μ'
    | .ok (.rt d, env') μ' => .ok (.rt d, env') μ'
    | .ok (.bk, env') μ' => .ok (.bk, env') μ'
    | .ok (.ct, env') μ' => .ok (.ct, env') μ'
    | .ex _ _ => .bad
    | .bad => .bad) = _
  cases evS P call b env μ with
  | ok x μ' =>
    obtain ⟨s, e⟩ := x
    cases s <;> rfl
  | ex _ _ => rfl
  | bad => rfl
@[simp] theorem mTry_nx (els : CS) (env : Env) (μ : Store) : mTry P call els (.ok (.nx, env) μ) = evS P call els env μ := (rfl)
@[simp] theorem mTry_rt (els : CS) (d : D) (env : Env) (μ : Store) : mTry P call els (.ok (.rt d, env) μ) = .ok (.rt d, env) μ := (rfl)
theorem evS_while (c : CE) (b : CS) (clr : List Nat) (env : Env) (μ : Store) : evS P call (.while c b clr) env μ = whileL (evE P call c) (evS P call b) clr P.fuel env μ := rfl
end
end Co
namespace Co
open PySem L2
theorem eqv_refl_all : (∀ d : D, ∀ n, d.dat n = true → d.eqv d = true) := by
  suffices h : ∀ m : Nat, (∀ d : D, sizeOf d ≤ m → ∀ n, d.dat n = true → d.eqv d = true) ∧ (∀ xs : List D, sizeOf xs ≤ m → ∀ n, D.dats n xs = true → D.eqvs xs xs = true) from fun d n hd => (h (sizeOf d)).1 d (Nat.le_refl _) n hd
  intro m
  induction m with
  | zero => exact ⟨fun d h => by cases d <;> simp at h, fun xs h => by cases xs <;> simp at h⟩
  | succ m ih =>
    refine ⟨fun d h n hd => ?_, fun xs h n hd => ?_⟩
    · cases d with
      | tup xs =>
        cases n with
        | zero => cases hd
        | succ n => exact ih.2 xs (by simp at h; omega) n hd
      | wtup xs =>
        cases n with
        | zero => cases hd
        | succ n => exact ih.2 xs (by simp at h; omega) n hd
      | lst xs =>
        cases n with
        | zero => cases hd
        | succ n => exact ih.2 xs (by simp at h; omega) n hd
      | dic t kvs => cases hd
      | ins c fs => cases hd
      | cell i => cases hd
      | non => rfl
      | bl b => exact beq_self_eq_true b
      | int i => exact beq_self_eq_true i
      | str x => exact decide_eq_true rfl
    · cases xs with
      | nil => rfl
      | cons x r =>
        have hd' : (x.dat n && D.dats n r) = true := hd
        rw [Bool.and_eq_true] at hd'
        show (x.eqv x && D.eqvs r r) = true
        rw [ih.1 x (by simp at h; omega) n hd'.1, ih.2 r (by simp at h; omega) n hd'.2]
        rfl
theorem eqS_same {μ : Store} {d e x : D} (h1 : still μ d = some x) (h2 : still μ e = some x) (h : x.dat 60 = true) : eqS μ d e = some true := by
  unfold eqS
  rw [h1, h2]
  simp only [h, Bool.and_self, if_true, eqv_refl_all x 60 h]
theorem still_cl {μ : Store} {i : Nat} {xs : List D} (h : μ[i]? = some (.lst xs)) : still μ (.cell i) = some (.lst xs) := by simp [still, h]
theorem dats_map {α : Type} {n : Nat} (f : α → D) : ∀ {l : List α}, (∀ x ∈ l, (f x).dat n = true) → D.dats n (l.map f) = true
  | [], _ => rfl
  | x :: r, h => by
    show ((f x).dat n && D.dats n (r.map f)) = true
    rw [h x List.mem_cons_self, dats_map f fun y hy => h y (List.mem_cons_of_mem _ hy)]
    rfl
theorem dats_app {n : Nat} : ∀ {a b : List D}, D.dats n a = true → D.dats n b = true → D.dats n (a ++ b) = true
  | [], _, _, h => h
  | x :: r, b, h1, h2 => by
    have h1' : (x.dat n && D.dats n r) = true := h1
    rw [Bool.and_eq_true] at h1'
    show (x.dat n && D.dats n (r ++ b)) = true
    rw [h1'.1, dats_app h1'.2 h2]
    rfl
theorem cutD_take (xs : List D) (k : Nat) : cutD xs none (some (k : Int)) = xs.take k := by
  unfold cutD
  rw [HT.sIx_none, HT.sIx_nat, List.drop_zero, Nat.sub_zero]
  by_cases h : k ≤ xs.length
  · rw [Nat.min_eq_left h]
  · rw [Nat.min_eq_right (by omega), List.take_length, List.take_of_length_le (by omega)]
theorem enum_at {xs : List D} {j : Nat} (h : j < (enumD 0 xs).length) : (enumD 0 xs)[j] = .tup [.int (j : Int), xs[j]'(by rwa [enumD_len] at h)] := by
  have h2 : j < xs.length := by rwa [enumD_len] at h
  have e := enumD_get (n := 0) (List.getElem?_eq_getElem h2)
  rw [List.getElem?_eq_getElem h, Option.some.injEq, Nat.zero_add] at e
  exact e
end Co
namespace Co
open PySem L2
theorem binS_addcl {μ : Store} {i : Nat} {xs ys : List D} (h : μ[i]? = some (.lst xs)) (hz : sz (xs.length + ys.length) = true) : binS μ .add (.cell i) (.lst ys) = .ok (.lst (xs ++ ys)) μ := by
  have e : lstOf μ (.cell i) = some xs := lstOf_c h
  have e2 : lstOf μ (.lst ys) = some ys := rfl
  have e3 : binS μ .add (.cell i) (.lst ys) = match lstOf μ (.cell i), lstOf μ (.lst ys) with
    | some xs, some ys => if sz (xs.length + ys.length) then .ok (.lst (xs ++ ys)) μ else .bad
    | _, _ => .bad := rfl
  rw [e3, e, e2]
  exact if_pos hz
theorem bi_listF {μ : Store} {i : Nat} {xs : List D} (h : μ[i]? = some (.lst xs)) : biS μ (.list true) [.cell i] = .ok (.lst xs) μ := by
  have e : seqOf μ (.cell i) = some xs := lstOf_c h
  simp [biS, e]
theorem slS_cl {μ : Store} {i : Nat} {xs : List D} (h : μ[i]? = some (.lst xs)) (lo hi : Option Int) : slS μ (.cell i) lo hi = .ok (.lst (cutD xs lo hi)) μ := by
  have e : lstOf μ (.cell i) = some xs := lstOf_c h
  simp [slS, e]
end Co

set_option linter.all false
set_option maxRecDepth 100000
namespace Tx
open PySem L2 Co
def b_WrongKind___init__ : CS := (.seq (.exp .unk) (.sfld (.var 0) 0 (.var 1)))
def b_is_whole : CS := (.ret (.and (.isi (.var 0) [.int]) (.not (.isi (.var 0) [.bool]))))
def b_is_name : CS := (.seq (.ite (.or (.not (.isi (.var 0) [.str])) (.not (.chn .le .le (.lit (.int 1)) (.bi .len (.acons (.var 0) .anil)) (.glo 3)))) (.ret (.lit (.bl false))) .skip) (.seq (.for .seq (.acons (.var 0) .anil) (.nm 1) (.ite (.cmp .notin (.var 1) (.glo 0)) (.ret (.lit (.bl false))) .skip) [1]) (.ret (.cmp .notin (.var 0) (.glo 2)))))
def b_are_figures : CS := (.seq (.ite (.not (.chn .le .le (.lit (.int 1)) (.bi .len (.acons (.var 0) .anil)) (.var 1))) (.ret (.lit (.bl false))) .skip) (.seq (.for .seq (.acons (.var 0) .anil) (.nm 2) (.ite (.cmp .notin (.var 2) (.glo 1)) (.ret (.lit (.bl false))) .skip) [2]) (.ret (.lit (.bl true)))))
def b_number_of : CS := (.seq (.ite (.not (.isi (.var 0) [.str])) (.raise 19 (.acons (.lit (.str "a number is written as a text")) .anil)) .skip) (.seq (.asg (.nm 2) (.var 0)) (.seq (.ite (.bm .startswith (.var 0) (.acons (.lit (.str "-")) .anil)) (.asg (.nm 2) (.sl (.var 0) (.prt (.lit (.int 1))) .npt)) .skip) (.seq (.ite (.not (.call 3 (.acons (.var 2) (.acons (.var 1) .anil)) [])) (.raise 19 (.acons (.lit (.str "a number is written by figures")) .anil)) .skip) (.seq (.ite (.and (.cmp .eq (.ix (.var 2) (.lit (.int 0))) (.lit (.str "0"))) (.cmp .ne (.var 0) (.lit (.str "0")))) (.raise 19 (.acons (.lit (.str "a nought ahead")) .anil)) .skip) (.ret (.bi .int (.acons (.var 0) .anil))))))))
def b_Kind___init__ : CS := (.seq (.sfld (.var 0) 1 (.var 1)) (.sfld (.var 0) 2 (.var 2)))
def b_Kind_fits : CS := (.ret (.lit (.bl false)))
def b_YesNo___init__ : CS := (.exp (.sup 5 (.acons (.var 0) (.acons (.lit (.int 0)) (.acons (.lit (.int 1)) .anil)))))
def b_YesNo_fits : CS := (.ret (.isi (.var 1) [.bool]))
def b_YesNo_shown : CS := (.seq (.ite (.var 1) (.ret (.lit (.str "yes"))) .skip) (.ret (.lit (.str "no"))))
def b_YesNo_rank : CS := (.ret (.bi .int (.acons (.var 1) .anil)))
def b_YesNo_told : CS := (.ret (.lit (.str "yesno")))
def b_Whole_fits : CS := (.ret (.and (.call 1 (.acons (.var 1) .anil) []) (.chn .le .le (.fld (.var 0) 1) (.var 1) (.fld (.var 0) 2))))
def b_Whole_shown : CS := (.ret (.bi .str (.acons (.var 1) .anil)))
def b_Whole_rank : CS := (.ret (.var 1))
def b_Whole_told : CS := (.ret (.bin .add (.bin .add (.bin .add (.lit (.str "whole ")) (.meth (.var 0) 0 (.acons (.fld (.var 0) 1) .anil))) (.lit (.str " "))) (.meth (.var 0) 0 (.acons (.fld (.var 0) 2) .anil))))
def b_hundredths : CS := (.seq (.asg (.nm 1) (.var 0)) (.seq (.ite (.bm .startswith (.var 0) (.acons (.lit (.str "-")) .anil)) (.asg (.nm 1) (.sl (.var 0) (.prt (.lit (.int 1))) .npt)) .skip) (.seq (.asg (.tp (.cons (.nm 2) (.cons (.nm 3) (.cons (.nm 4) .nil)))) .unk) (.seq (.ite (.or (.cmp .eq (.var 3) (.lit (.str ""))) (.or (.cmp .ne (.bi .len (.acons (.var 4) .anil)) (.lit (.int 2))) (.or (.not (.call 3 (.acons (.bin .add (.var 2) (.var 4)) .anil) [(.int 60)])) (.cmp .eq (.var 2) (.lit (.str "")))))) (.ret (.lit .non)) .skip) (.seq (.ite (.and (.cmp .eq (.ix (.var 2) (.lit (.int 0))) (.lit (.str "0"))) (.cmp .gt (.bi .len (.acons (.var 2) .anil)) (.lit (.int 1)))) (.ret (.lit .non)) .skip) (.seq (.asg (.nm 5) (.bi .int (.acons (.bin .add (.var 2) (.var 4)) .anil))) (.seq (.ite (.cmp .eq (.var 1) (.var 0)) (.ret (.var 5)) .skip) (.seq (.ite (.cmp .eq (.var 5) (.lit (.int 0))) (.ret (.lit .non)) .skip) (.ret (.bin .sub (.lit (.int 0)) (.var 5)))))))))))
def b_Money_shown : CS := (.seq (.asg (.tp (.cons (.nm 2) (.cons (.nm 3) .nil))) .unk) (.seq (.asg (.nm 4) (.bin .add (.bin .add (.bi .str (.acons (.var 2) .anil)) (.lit (.str "."))) .unk)) (.seq (.ite (.cmp .lt (.var 1) (.lit (.int 0))) (.ret (.bin .add (.lit (.str "-")) (.var 4))) .skip) (.ret (.var 4)))))
def b_Money_told : CS := (.ret (.bin .add (.bin .add (.bin .add (.lit (.str "money ")) (.meth (.var 0) 0 (.acons (.fld (.var 0) 1) .anil))) (.lit (.str " "))) (.meth (.var 0) 0 (.acons (.fld (.var 0) 2) .anil))))
def b_Pick___init__ : CS := (.seq (.exp (.sup 5 (.acons (.var 0) (.acons (.lit (.int 0)) (.acons (.bin .sub (.bi .len (.acons (.var 1) .anil)) (.lit (.int 1))) .anil))))) (.sfld (.var 0) 3 (.bi (.list true) (.acons (.var 1) .anil))))
def b_Pick_fits : CS := (.ret (.and (.isi (.var 1) [.str]) (.cmp .isin (.var 1) (.fld (.var 0) 3))))
def b_Pick_shown : CS := (.ret (.var 1))
def b_Pick_rank : CS := (.ret (.bm .index (.fld (.var 0) 3) (.acons (.var 1) .anil)))
def b_Pick_told : CS := (.ret (.bin .add (.lit (.str "pick ")) (.bm .join (.lit (.str " ")) (.acons (.fld (.var 0) 3) .anil))))
def b_Names___init__ : CS := (.exp (.sup 5 (.acons (.var 0) (.acons (.lit (.int 0)) (.acons (.var 1) .anil)))))
def b_Names_fits : CS := (.seq (.ite (.or (.not (.isi (.var 1) [.tuple])) (.cmp .gt (.bi .len (.acons (.var 1) .anil)) (.fld (.var 0) 2))) (.ret (.lit (.bl false))) .skip) (.seq (.for .seq (.acons (.var 1) .anil) (.nm 2) (.ite (.not (.call 2 (.acons (.var 2) .anil) [])) (.ret (.lit (.bl false))) .skip) [2]) (.ret (.cmp .eq .unk (.bi .len (.acons (.var 1) .anil))))))
def b_Names_shown : CS := (.seq (.ite (.cmp .eq (.var 1) (.tup .anil)) (.ret (.lit (.str "-"))) .skip) (.ret (.bm .join (.lit (.str " ")) (.acons (.var 1) .anil))))
def b_Names_rank : CS := (.ret (.bi .len (.acons (.var 1) .anil)))
def b_Names_told : CS := (.ret (.bin .add (.lit (.str "names ")) (.bi .str (.acons (.fld (.var 0) 2) .anil))))
def b_whole_of : CS := (.seq (.try (.seq (.asg (.nm 1) (.call 4 (.acons (.ix (.var 0) (.lit (.int 0))) .anil) [(.int 60)])) (.asg (.nm 2) (.call 4 (.acons (.ix (.var 0) (.lit (.int 1))) .anil) [(.int 60)]))) [19] none (.raise 21 (.acons (.lit (.str "whole has two numbers")) .anil)) (.ite (.cmp .gt (.var 1) (.var 2)) (.raise 21 (.acons (.lit (.str "the least is above the greatest")) .anil)) .skip)) (.ret (.make 2 true (.acons (.var 1) (.acons (.var 2) .anil)) [])))
def b_money_of : CS := (.seq (.asg (.nm 1) (.call 16 (.acons (.ix (.var 0) (.lit (.int 0))) .anil) [])) (.seq (.asg (.nm 2) (.call 16 (.acons (.ix (.var 0) (.lit (.int 1))) .anil) [])) (.seq (.ite (.or (.cmp .is (.var 1) (.lit .non)) (.or (.cmp .is (.var 2) (.lit .non)) (.cmp .gt (.var 1) (.var 2)))) (.raise 21 (.acons (.lit (.str "money has two amounts, the least not above the greatest")) .anil)) .skip) (.ret (.make 3 true (.acons (.var 1) (.acons (.var 2) .anil)) [])))))
def b_kind_of : CS := (.seq (.ite (.not (.isi (.var 0) [.str])) (.raise 21 (.acons (.lit (.str "a kind is written as a text")) .anil)) .skip) (.seq (.asg (.nm 1) (.bm .split (.var 0) (.acons (.lit (.str " ")) .anil))) (.seq (.asg (.nm 2) (.sl (.var 1) (.prt (.lit (.int 1))) .npt)) (.seq (.ite (.cmp .eq (.var 1) (.lst true (.acons (.lit (.str "yesno")) .anil))) (.ret (.make 1 true .anil [])) .skip) (.seq (.ite (.and (.cmp .eq (.ix (.var 1) (.lit (.int 0))) (.lit (.str "whole"))) (.cmp .eq (.bi .len (.acons (.var 2) .anil)) (.lit (.int 2)))) (.ret (.call 29 (.acons (.var 2) .anil) [])) .skip) (.seq (.ite (.and (.cmp .eq (.ix (.var 1) (.lit (.int 0))) (.lit (.str "money"))) (.cmp .eq (.bi .len (.acons (.var 2) .anil)) (.lit (.int 2)))) (.ret (.call 30 (.acons (.var 2) .anil) [])) .skip) (.seq (.ite (.and (.cmp .eq (.ix (.var 1) (.lit (.int 0))) (.lit (.str "pick"))) (.chn .le .le (.lit (.int 2)) (.bi .len (.acons (.var 2) .anil)) (.lit (.int 6)))) (.seq (.for .seq (.acons (.var 2) .anil) (.nm 3) (.ite (.not (.call 2 (.acons (.var 3) .anil) [])) (.raise 21 (.acons (.lit (.str "pick has names")) .anil)) .skip) [3]) (.ite (.cmp .eq .unk (.bi .len (.acons (.var 2) .anil))) (.ret (.make 4 true (.acons (.var 2) .anil) [])) .skip)) .skip) (.seq (.clr [3]) (.seq (.ite (.and (.cmp .eq (.ix (.var 1) (.lit (.int 0))) (.lit (.str "names"))) (.and (.cmp .eq (.bi .len (.acons (.var 2) .anil)) (.lit (.int 1))) (.cmp .isin (.ix (.var 2) (.lit (.int 0))) (.tup (.acons (.lit (.str "1")) (.acons (.lit (.str "2")) (.acons (.lit (.str "3")) (.acons (.lit (.str "4")) (.acons (.lit (.str "5")) (.acons (.lit (.str "6")) .anil)))))))))) (.ret (.make 5 true (.acons (.bi .int (.acons (.ix (.var 2) (.lit (.int 0))) .anil)) .anil) [])) .skip) (.raise 21 (.acons (.lit (.str "no kind")) .anil)))))))))))
def b_Row___init__ : CS := (.sfld (.var 0) 0 (.var 1))
def b_Ask___init__ : CS := (.seq (.exp (.sup 32 (.acons (.var 0) (.acons (.var 1) .anil)))) (.seq (.sfld (.var 0) 4 (.var 2)) (.sfld (.var 0) 5 (.var 3))))
def b_Check___init__ : CS := (.seq (.exp (.sup 32 (.acons (.var 0) (.acons (.var 1) .anil)))) (.seq (.sfld (.var 0) 6 (.var 2)) (.sfld (.var 0) 7 (.var 3))))
def b_Sheet___init__ : CS := (.seq (.sfld (.var 0) 0 (.var 1)) (.seq (.sfld (.var 0) 8 (.var 2)) (.seq (.sfld (.var 0) 9 (.bi (.list true) (.acons (.var 3) .anil))) (.sfld (.var 0) 10 (.bi (.list true) (.acons (.var 4) .anil))))))
def b_Paper___init__ : CS := (.seq (.sfld (.var 0) 0 (.var 1)) (.seq (.sfld (.var 0) 11 (.bi (.list true) (.acons (.var 2) .anil))) (.sfld (.var 0) 12 (.bi (.list true) (.acons (.var 3) .anil)))))
def b_kinds_of : CS := (.seq (.asg (.nm 1) (.dnew false false)) (.seq (.for .seq (.acons (.fld (.var 0) 11) .anil) (.nm 2) (.seq (.clr [3]) (.for .seq (.acons (.fld (.var 2) 9) .anil) (.nm 3) (.ite (.isi (.var 3) [.own 7]) (.sidx (.var 1) (.fld (.var 3) 0) (.fld (.var 3) 4)) .skip) [3])) [2, 3]) (.seq (.frz 1) (.ret (.var 1)))))
def b_put_in : CS := (.seq (.for .seq (.acons (.ix (.var 0) (.var 1)) .anil) (.tp (.cons (.nm 3) (.cons (.nm 4) .nil))) (.ite (.and (.cmp .isin (.var 4) (.var 0)) (.cmp .notin (.var 4) (.var 2))) (.exp (.call 38 (.acons (.var 0) (.acons (.var 4) (.acons (.var 2) .anil))) [])) .skip) [3, 4]) (.seq (.asg (.nm 5) (.dnew false false)) (.seq (.asg (.nm 6) (.lit (.int 0))) (.seq (.clr [3, 4]) (.seq (.for .seq (.acons (.ix (.var 0) (.var 1)) .anil) (.tp (.cons (.nm 3) (.cons (.nm 4) .nil))) (.seq (.ite (.cmp .is (.var 4) (.lit .non)) (.asg (.nm 6) (.bin .add (.var 6) (.var 3))) (.seq (.ite (.cmp .isin (.var 4) (.var 0)) (.seq (.asg (.nm 6) (.bin .add (.var 6) (.bin .mul (.var 3) (.ix (.ix (.var 2) (.var 4)) (.lit (.int 1)))))) (.seq (.clr [7, 8]) (.for .items (.acons (.ix (.ix (.var 2) (.var 4)) (.lit (.int 0))) .anil) (.tp (.cons (.nm 7) (.cons (.nm 8) .nil))) (.sidx (.var 5) (.var 7) (.bin .add (.bm .get (.var 5) (.acons (.var 7) (.acons (.lit (.int 0)) .anil))) (.bin .mul (.var 3) (.var 8)))) [7, 8]))) (.sidx (.var 5) (.var 4) (.bin .add (.bm .get (.var 5) (.acons (.var 4) (.acons (.lit (.int 0)) .anil))) (.var 3)))) (.clr [7, 8]))) (.clr [7, 8])) [3, 4, 7, 8]) (.seq (.frz 5) (.sidx (.var 2) (.var 1) (.tup (.acons (.var 5) (.acons (.var 6) .anil))))))))))
def b_put_together : CS := (.seq (.asg (.nm 2) (.dnew false false)) (.seq (.exp (.call 38 (.acons (.bi (.dict true) (.acons (.fld (.var 0) 12) .anil)) (.acons (.var 1) (.acons (.var 2) .anil))) [])) (.seq (.asg (.tp (.cons (.nm 3) (.cons (.nm 4) .nil))) (.ix (.var 2) (.var 1))) (.ret (.tup (.acons (.lc true .items (.acons (.var 3) .anil) (.tp (.cons (.nm 5) (.cons (.nm 6) .nil))) (.cmp .ne (.var 6) (.lit (.int 0))) (.tup (.acons (.var 6) (.acons (.var 5) .anil))) [5, 6]) (.acons (.var 4) .anil)))))))
def b_Is___init__ : CS := (.seq (.sfld (.var 0) 0 (.var 1)) (.seq (.sfld (.var 0) 13 (.var 2)) (.sfld (.var 0) 14 (.var 3))))
def b_Is_shown : CS := (.ret (.bin .add (.bin .add (.fld (.var 0) 0) (.lit (.str " is "))) (.fld (.var 0) 13)))
def b_Is_settled : CS := (.seq (.asg (.nm 2) (.bm .get (.var 1) (.acons (.fld (.var 0) 0) .anil))) (.seq (.ite (.and (.isi (.var 2) [.own 1]) (.cmp .isin (.fld (.var 0) 13) (.tup (.acons (.lit (.str "yes")) (.acons (.lit (.str "no")) .anil))))) (.ret (.make 12 true (.acons (.fld (.var 0) 0) (.acons (.fld (.var 0) 13) (.acons (.bi .int (.acons (.cmp .eq (.fld (.var 0) 13) (.lit (.str "yes"))) .anil)) .anil))) [])) .skip) (.seq (.ite (.and (.isi (.var 2) [.own 4]) (.meth (.var 2) 1 (.acons (.fld (.var 0) 13) .anil))) (.ret (.make 12 true (.acons (.fld (.var 0) 0) (.acons (.fld (.var 0) 13) (.acons (.meth (.var 2) 2 (.acons (.fld (.var 0) 13) .anil)) .anil))) [])) .skip) (.raise 22 (.acons (.fld (.var 0) 0) .anil)))))
def b_Not___init__ : CS := (.sfld (.var 0) 6 (.var 1))
def b_Not_shown : CS := (.ret (.bin .add (.lit (.str "not ")) (.meth (.fld (.var 0) 6) 0 .anil)))
def b_Not_settled : CS := (.ret (.make 13 true (.acons (.meth (.fld (.var 0) 6) 3 (.acons (.var 1) .anil)) .anil) []))
def b_Both___init__ : CS := (.seq (.sfld (.var 0) 15 (.var 1)) (.sfld (.var 0) 16 (.var 2)))
def b_Both_shown : CS := (.ret (.bin .add (.bin .add (.bin .add (.bin .add (.lit (.str "( ")) (.meth (.fld (.var 0) 15) 0 .anil)) (.lit (.str " and "))) (.meth (.fld (.var 0) 16) 0 .anil)) (.lit (.str " )"))))
def b_Both_settled : CS := (.seq (.asg (.nm 2) (.meth (.fld (.var 0) 15) 3 (.acons (.var 1) .anil))) (.ret (.make 14 true (.acons (.var 2) (.acons (.meth (.fld (.var 0) 16) 3 (.acons (.var 1) .anil)) .anil)) [])))
def b_Either___init__ : CS := (.seq (.sfld (.var 0) 15 (.var 1)) (.sfld (.var 0) 16 (.var 2)))
def b_Either_shown : CS := (.ret (.bin .add (.bin .add (.bin .add (.bin .add (.lit (.str "( ")) (.meth (.fld (.var 0) 15) 0 .anil)) (.lit (.str " or "))) (.meth (.fld (.var 0) 16) 0 .anil)) (.lit (.str " )"))))
def b_Either_settled : CS := (.seq (.asg (.nm 2) (.meth (.fld (.var 0) 15) 3 (.acons (.var 1) .anil))) (.ret (.make 15 true (.acons (.var 2) (.acons (.meth (.fld (.var 0) 16) 3 (.acons (.var 1) .anil)) .anil)) [])))
def b_Maker___init__ : CS := (.seq (.sfld (.var 0) 17 (.var 1)) (.seq (.sfld (.var 0) 18 (.call 37 (.acons (.var 1) .anil) [])) (.seq (.sfld (.var 0) 12 (.bi (.dict true) (.acons (.fld (.var 1) 12) .anil))) (.seq (.sfld (.var 0) 19 (.dnew false false)) (.seq (.for .seq (.acons (.fld (.var 1) 11) .anil) (.nm 2) (.seq (.clr [3]) (.for .seq (.acons (.fld (.var 2) 9) .anil) (.nm 3) (.sidx (.fld (.var 0) 19) (.fld (.var 3) 0) (.fld (.var 2) 8)) [3])) [2, 3]) (.seq (.sfld (.var 0) 20 (.lst false .anil)) (.sfld (.var 0) 21 (.dnew false false))))))))
def b_Maker_put : CS := (.seq (.exp (.bm .append (.fld (.var 0) 20) (.acons (.var 1) .anil))) (.ret (.bin .sub (.bi .len (.acons (.fld (.var 0) 20) .anil)) (.lit (.int 1)))))
def b_Maker_atom_page : CS := (.seq (.ite (.isi (.var 1) [.own 12]) (.seq (.asg (.nm 4) (.fld (.meth (.var 1) 3 (.acons (.fld (.var 0) 18) .anil)) 14)) (.ret (.meth (.var 0) 4 (.acons (.tup (.acons (.lit (.str "compare")) (.acons (.fld (.var 1) 0) (.acons (.cmp .isnt (.ix (.fld (.var 0) 19) (.fld (.var 1) 0)) (.lit .non)) (.acons (.lit (.str "=")) (.acons (.var 4) (.acons (.var 2) (.acons (.var 3) .anil)))))))) .anil)))) .skip) (.seq (.clr [4]) (.seq (.ite (.cmp .isin (.fld (.var 1) 0) (.fld (.var 0) 12)) (.seq (.asg (.tp (.cons (.nm 5) (.cons (.nm 6) .nil))) (.call 39 (.acons (.fld (.var 0) 17) (.acons (.fld (.var 1) 0) .anil)) [])) (.ret (.meth (.var 0) 4 (.acons (.tup (.acons (.lit (.str "total")) (.acons (.var 5) (.acons (.var 6) (.acons (.fld (.var 1) 23) (.acons (.fld (.var 1) 22) (.acons (.var 2) (.acons (.var 3) .anil)))))))) .anil)))) .skip) (.seq (.clr [5, 6]) (.seq (.asg (.nm 7) (.cmp .isnt (.ix (.fld (.var 0) 19) (.fld (.var 1) 0)) (.lit .non))) (.ret (.meth (.var 0) 4 (.acons (.tup (.acons (.lit (.str "compare")) (.acons (.fld (.var 1) 0) (.acons (.var 7) (.acons (.fld (.var 1) 23) (.acons (.fld (.var 1) 22) (.acons (.var 2) (.acons (.var 3) .anil)))))))) .anil))))))))
def b_Maker_saying_pages : CS := (.seq (.ite (.isi (.var 1) [.own 13]) (.ret (.meth (.var 0) 5 (.acons (.fld (.var 1) 6) (.acons (.var 3) (.acons (.var 2) .anil))))) .skip) (.seq (.ite (.isi (.var 1) [.own 14]) (.ret (.meth (.var 0) 5 (.acons (.fld (.var 1) 15) (.acons (.meth (.var 0) 5 (.acons (.fld (.var 1) 16) (.acons (.var 2) (.acons (.var 3) .anil)))) (.acons (.var 3) .anil))))) .skip) (.seq (.ite (.isi (.var 1) [.own 15]) (.ret (.meth (.var 0) 5 (.acons (.fld (.var 1) 15) (.acons (.var 2) (.acons (.meth (.var 0) 5 (.acons (.fld (.var 1) 16) (.acons (.var 2) (.acons (.var 3) .anil)))) .anil))))) .skip) (.ret (.meth (.var 0) 6 (.acons (.var 1) (.acons (.var 2) (.acons (.var 3) .anil))))))))
def b_Maker_check_pages : CS := (.seq (.asg (.nm 4) (.meth (.var 0) 4 (.acons (.tup (.acons (.lit (.str "pass")) (.acons (.fld (.var 1) 0) (.acons (.var 2) (.acons (.var 3) .anil))))) .anil))) (.seq (.ite (.fld (.var 1) 7) (.asg (.nm 5) (.meth (.var 0) 4 (.acons (.tup (.acons (.lit (.str "held")) (.acons (.fld (.var 1) 0) (.acons (.var 2) .anil)))) .anil))) (.asg (.nm 5) (.meth (.var 0) 4 (.acons (.tup (.acons (.lit (.str "warn")) (.acons (.fld (.var 1) 0) (.acons (.var 2) (.acons (.var 3) .anil))))) .anil)))) (.ret (.meth (.var 0) 5 (.acons (.fld (.var 1) 6) (.acons (.var 4) (.acons (.var 5) .anil)))))))
def b_Maker_row_pages : CS := (.seq (.for .rev (.acons (.fld (.var 1) 9) .anil) (.nm 3) (.seq (.ite (.isi (.var 3) [.own 8]) (.asg (.nm 2) (.meth (.var 0) 7 (.acons (.var 3) (.acons (.fld (.var 1) 8) (.acons (.var 2) .anil))))) (.seq (.asg (.nm 4) (.meth (.var 0) 4 (.acons (.tup (.acons (.lit (.str "ask")) (.acons (.fld (.var 3) 0) (.acons (.meth (.fld (.var 3) 4) 8 .anil) (.acons (.fld (.var 1) 8) (.acons (.var 2) .anil)))))) .anil))) (.ite (.cmp .is (.fld (.var 3) 5) (.lit .non)) (.asg (.nm 2) (.var 4)) (.asg (.nm 2) (.meth (.var 0) 5 (.acons (.fld (.var 3) 5) (.acons (.var 4) (.acons (.var 2) .anil)))))))) (.clr [4])) [3, 4]) (.ret (.var 2)))
def b_Maker_way_pages : CS := (.seq (.asg (.nm 2) (.lst false .anil)) (.seq (.asg (.nm 3) (.lit .non)) (.seq (.for .seq (.acons (.fld (.ix (.fld (.fld (.var 0) 17) 11) (.var 1)) 10) .anil) (.tp (.cons (.nm 4) (.cons (.nm 5) .nil))) (.seq (.ite (.cmp .is (.var 5) (.lit .non)) (.seq (.asg (.nm 3) (.meth (.var 0) 9 (.acons (.var 4) .anil))) .brk) .skip) (.exp (.bm .append (.var 2) (.acons (.tup (.acons (.var 4) (.acons (.var 5) .anil))) .anil)))) [4, 5]) (.seq (.clr [4, 5]) (.seq (.ite (.cmp .is (.var 3) (.lit .non)) (.asg (.nm 3) (.meth (.var 0) 10 (.acons (.bin .add (.var 1) (.lit (.int 1))) .anil))) .skip) (.seq (.clr [4, 5]) (.seq (.for .rev (.acons (.var 2) .anil) (.tp (.cons (.nm 4) (.cons (.nm 5) .nil))) (.asg (.nm 3) (.meth (.var 0) 5 (.acons (.var 5) (.acons (.meth (.var 0) 9 (.acons (.var 4) .anil)) (.acons (.var 3) .anil))))) [4, 5]) (.ret (.var 3)))))))))
def b_Maker_aim : CS := (.seq (.for .enum (.acons (.fld (.fld (.var 0) 17) 11) .anil) (.tp (.cons (.nm 2) (.cons (.nm 3) .nil))) (.ite (.cmp .eq (.fld (.var 3) 0) (.var 1)) (.ret (.meth (.var 0) 10 (.acons (.var 2) .anil))) .skip) [2, 3]) (.ret (.meth (.var 0) 10 (.acons (.bi .len (.acons (.fld (.fld (.var 0) 17) 11) .anil)) .anil))))
def b_Maker_sheet_start : CS := (.seq (.ite (.cmp .notin (.var 1) (.fld (.var 0) 21)) (.sidx (.fld (.var 0) 21) (.var 1) (.meth (.var 0) 11 (.acons (.var 1) .anil))) .skip) (.ret (.ix (.fld (.var 0) 21) (.var 1))))
def b_Maker_begin : CS := (.seq (.ite (.cmp .eq (.var 1) (.bi .len (.acons (.fld (.fld (.var 0) 17) 11) .anil))) (.ret (.meth (.var 0) 4 (.acons (.tup (.acons (.lit (.str "end")) .anil)) .anil))) .skip) (.seq (.asg (.nm 2) (.ix (.fld (.fld (.var 0) 17) 11) (.var 1))) (.seq (.asg (.nm 3) (.meth (.var 0) 12 (.acons (.var 1) .anil))) (.seq (.ite (.cmp .is (.fld (.var 2) 8) (.lit .non)) (.ret (.meth (.var 0) 13 (.acons (.var 2) (.acons (.var 3) .anil)))) .skip) (.seq (.asg (.nm 4) (.meth (.var 0) 4 (.acons (.tup (.acons (.lit (.str "end")) .anil)) .anil))) (.seq (.asg (.nm 5) (.meth (.var 0) 4 (.acons (.tup (.acons (.lit (.str "on")) (.acons (.var 4) .anil))) .anil))) (.seq (.sidx (.fld (.var 0) 20) (.var 4) (.tup (.acons (.lit (.str "more")) (.acons (.fld (.var 2) 8) (.acons (.meth (.var 0) 13 (.acons (.var 2) (.acons (.var 5) .anil))) (.acons (.var 3) .anil)))))) (.ret (.meth (.var 0) 4 (.acons (.tup (.acons (.lit (.str "first")) (.acons (.fld (.var 2) 8) (.acons (.var 4) .anil)))) .anil))))))))))
def b_targets_of : CS := (.seq (.ite (.cmp .isin (.ix (.var 0) (.lit (.int 0))) (.lst true (.acons (.lit (.str "held")) (.acons (.lit (.str "end")) .anil)))) (.ret (.lit (.int 0))) .skip) (.seq (.ite (.cmp .isin (.ix (.var 0) (.lit (.int 0))) (.lst true (.acons (.lit (.str "compare")) (.acons (.lit (.str "total")) (.acons (.lit (.str "more")) .anil))))) (.ret (.lit (.int 2))) .skip) (.ret (.lit (.int 1)))))
def b_exchanged : CS := (.seq (.ite (.cmp .eq (.var 0) (.var 1)) (.ret (.lit (.int 0))) .skip) (.seq (.ite (.cmp .eq (.var 0) (.lit (.int 0))) (.ret (.var 1)) .skip) (.ret (.var 0))))
def b_turned : CS := (.seq (.asg (.nm 2) (.bin .sub (.bi .len (.acons (.var 0) .anil)) (.call 62 (.acons (.var 0) .anil) []))) (.ret (.bin .add (.sl (.var 0) .npt (.prt (.var 2))) (.bi .tuple (.acons (.lc true .seq (.acons (.sl (.var 0) (.prt (.var 2)) .npt) .anil) (.nm 3) (.lit (.bl true)) (.call 63 (.acons (.var 3) (.acons (.var 1) .anil)) []) [3]) .anil)))))
def b_pages_of : CS := (.seq (.asg (.nm 1) (.make 16 false (.acons (.var 0) .anil) [])) (.seq (.asg (.nm 2) (.meth (.var 1) 10 (.acons (.lit (.int 0)) .anil))) (.seq (.asg (.nm 3) (.lc true .seq (.acons (.fld (.var 1) 20) .anil) (.nm 4) (.lit (.bl true)) (.call 64 (.acons (.var 4) (.acons (.var 2) .anil)) []) [4])) (.ret (.lc false .rng1 (.acons (.bi .len (.acons (.var 3) .anil)) .anil) (.nm 5) (.lit (.bl true)) (.ix (.var 3) (.call 63 (.acons (.var 5) (.acons (.var 2) .anil)) [])) [5])))))
def b_compares : CS := (.seq (.ite (.cmp .eq (.var 1) (.lit (.str "<"))) (.ret (.cmp .lt (.var 0) (.var 2))) .skip) (.seq (.ite (.cmp .eq (.var 1) (.lit (.str ">"))) (.ret (.cmp .gt (.var 0) (.var 2))) .skip) (.ret (.cmp .eq (.var 0) (.var 2)))))
def b_Run___init__ : CS := (.seq (.sfld (.var 0) 24 (.var 1)) (.seq (.sfld (.var 0) 25 (.lst false .anil)) (.seq (.sfld (.var 0) 26 (.dnew true false)) (.seq (.sfld (.var 0) 27 (.dnew false false)) (.seq (.sfld (.var 0) 28 (.dnew false false)) (.seq (.sfld (.var 0) 14 (.lit (.int 0))) (.sfld (.var 0) 29 (.lit (.str "")))))))))
def b_Run_thing_of : CS := (.seq (.ite (.cmp .is (.var 1) (.lit .non)) (.ret (.lit (.str ""))) .skip) (.ret (.fld (.var 0) 29)))
def b_Run_ask : CS := (.seq (.asg (.tp (.cons (.nm 2) (.cons (.nm 3) (.cons (.nm 4) (.cons (.nm 5) (.cons (.nm 6) .nil)))))) (.var 1)) (.seq (.asg (.nm 7) (.call 31 (.acons (.var 4) .anil) [])) (.seq (.asg (.nm 8) (.meth (.var 0) 14 (.acons (.var 5) .anil))) (.seq (.asg (.nm 9) (.bm .get (.fld (.var 0) 24) (.acons (.tup (.acons (.var 3) (.acons (.var 8) .anil))) .anil))) (.seq (.ite (.not (.meth (.var 7) 1 (.acons (.var 9) .anil))) (.seq (.exp (.bm .append (.fld (.var 0) 25) (.acons (.tup (.acons (.lit (.str "open")) (.acons (.var 3) (.acons (.var 8) .anil)))) .anil))) (.ret (.lit .non))) .skip) (.seq (.asg (.nm 10) (.meth (.var 7) 2 (.acons (.var 9) .anil))) (.seq (.sidx (.fld (.var 0) 26) (.tup (.acons (.var 3) (.acons (.var 8) .anil))) (.var 10)) (.seq (.sidx (.fld (.var 0) 27) (.var 3) (.bin .add (.bm .get (.fld (.var 0) 27) (.acons (.var 3) (.acons (.lit (.int 0)) .anil))) (.var 10))) (.seq (.ite (.and (.isi (.var 9) [.tuple]) (.cmp .is (.var 5) (.lit .non))) (.sidx (.fld (.var 0) 28) (.var 3) (.var 9)) .skip) (.seq (.exp (.bm .append (.fld (.var 0) 25) (.acons (.tup (.acons (.lit (.str "ask")) (.acons (.var 3) (.acons (.var 8) (.acons (.var 9) .anil))))) .anil))) (.ret (.var 6))))))))))))
def b_Run_compare : CS := (.seq (.asg (.tp (.cons (.nm 2) (.cons (.nm 3) (.cons (.nm 4) (.cons (.nm 5) (.cons (.nm 6) (.cons (.nm 7) (.cons (.nm 8) .nil)))))))) (.var 1)) (.seq (.asg (.nm 9) (.lit (.str ""))) (.seq (.ite (.var 4) (.asg (.nm 9) (.fld (.var 0) 29)) .skip) (.seq (.asg (.nm 10) (.bm .get (.fld (.var 0) 26) (.acons (.tup (.acons (.var 3) (.acons (.var 9) .anil))) .anil))) (.seq (.ite (.and (.cmp .isnt (.var 10) (.lit .non)) (.call 66 (.acons (.var 10) (.acons (.var 5) (.acons (.var 6) .anil))) [])) (.ret (.var 7)) .skip) (.ret (.var 8)))))))
def b_Run_total : CS := (.seq (.asg (.tp (.cons (.nm 2) (.cons (.nm 3) (.cons (.nm 4) (.cons (.nm 5) (.cons (.nm 6) (.cons (.nm 7) (.cons (.nm 8) .nil)))))))) (.var 1)) (.seq (.asg (.nm 9) (.var 4)) (.seq (.for .seq (.acons (.var 3) .anil) (.tp (.cons (.nm 10) (.cons (.nm 11) .nil))) (.asg (.nm 9) (.bin .add (.var 9) (.bin .mul (.var 10) (.bm .get (.fld (.var 0) 27) (.acons (.var 11) (.acons (.lit (.int 0)) .anil)))))) [10, 11]) (.seq (.ite (.call 66 (.acons (.var 9) (.acons (.var 5) (.acons (.var 6) .anil))) []) (.ret (.var 7)) .skip) (.ret (.var 8))))))
def b_Run_more : CS := (.seq (.asg (.tp (.cons (.nm 2) (.cons (.nm 3) (.cons (.nm 4) (.cons (.nm 5) .nil))))) (.var 1)) (.seq (.asg (.nm 6) (.bm .get (.fld (.var 0) 28) (.acons (.var 3) (.acons (.tup .anil) .anil)))) (.seq (.ite (.cmp .lt (.fld (.var 0) 14) (.bi .len (.acons (.var 6) .anil))) (.seq (.sfld (.var 0) 29 (.ix (.var 6) (.fld (.var 0) 14))) (.ret (.var 4))) .skip) (.ret (.var 5)))))
def b_Run_tell : CS := (.seq (.exp (.bm .append (.fld (.var 0) 25) (.acons (.tup (.acons (.ix (.var 1) (.lit (.int 0))) (.acons (.ix (.var 1) (.lit (.int 1))) (.acons (.meth (.var 0) 14 (.acons (.ix (.var 1) (.lit (.int 2))) .anil)) .anil)))) .anil))) (.seq (.ite (.cmp .eq (.ix (.var 1) (.lit (.int 0))) (.lit (.str "held"))) (.ret (.lit .non)) .skip) (.ret (.ix (.var 1) (.lit (.int 3))))))
def b_Run_step : CS := (.seq (.asg (.nm 2) (.ix (.var 1) (.lit (.int 0)))) (.seq (.ite (.cmp .eq (.var 2) (.lit (.str "ask"))) (.ret (.meth (.var 0) 15 (.acons (.var 1) .anil))) .skip) (.seq (.ite (.cmp .eq (.var 2) (.lit (.str "compare"))) (.ret (.meth (.var 0) 16 (.acons (.var 1) .anil))) .skip) (.seq (.ite (.cmp .eq (.var 2) (.lit (.str "total"))) (.ret (.meth (.var 0) 17 (.acons (.var 1) .anil))) .skip) (.seq (.ite (.cmp .eq (.var 2) (.lit (.str "more"))) (.ret (.meth (.var 0) 18 (.acons (.var 1) .anil))) .skip) (.seq (.ite (.cmp .isin (.var 2) (.lst true (.acons (.lit (.str "pass")) (.acons (.lit (.str "warn")) (.acons (.lit (.str "held")) .anil))))) (.ret (.meth (.var 0) 19 (.acons (.var 1) .anil))) .skip) (.seq (.ite (.cmp .eq (.var 2) (.lit (.str "end"))) (.seq (.exp (.bm .append (.fld (.var 0) 25) (.acons (.tup (.acons (.lit (.str "end")) .anil)) .anil))) (.ret (.lit .non))) .skip) (.seq (.ite (.cmp .eq (.var 2) (.lit (.str "first"))) (.seq (.sfld (.var 0) 14 (.lit (.int 0))) (.ret (.ix (.var 1) (.lit (.int 2))))) .skip) (.seq (.sfld (.var 0) 14 (.bin .add (.fld (.var 0) 14) (.lit (.int 1)))) (.ret (.ix (.var 1) (.lit (.int 1)))))))))))))
def b_run : CS := (.seq (.asg (.nm 2) (.make 17 false (.acons (.var 1) .anil) [])) (.seq (.asg (.nm 3) (.lit (.int 0))) (.seq (.while (.cmp .isnt (.var 3) (.lit .non)) (.asg (.nm 3) (.meth (.var 2) 20 (.acons (.ix (.var 0) (.var 3)) .anil))) []) (.ret (.fld (.var 2) 25)))))
def b_L_cell : CS := (.seq (.ite (.cmp .lt (.var 1) (.bi .len (.acons (.var 0) .anil))) (.ret (.ix (.var 0) (.var 1))) .skip) (.seq (.asg (.nm 2) (.bin .add (.bin .mul (.var 1) (.lit (.int 48271))) (.lit (.int 11)))) (.seq (.ite (.cmp .gt (.bi .len (.acons (.var 0) .anil)) (.lit (.int 0))) (.asg (.nm 2) (.bin .add (.var 2) (.bin .mul (.bin .mod (.ix (.var 0) (.bin .mod (.bin .mul (.var 1) (.lit (.int 7))) (.bi .len (.acons (.var 0) .anil)))) (.lit (.int 2147483647))) (.lit (.int 69621))))) .skip) (.ret (.bin .mod (.bin .mul (.var 2) (.var 2)) (.lit (.int 2147483629)))))))
def b_L_name : CS := (.seq (.asg (.nm 2) (.lit (.str "abcdefghijklmnopqrstuvwxyz"))) (.seq (.asg (.nm 3) (.call 76 (.acons (.var 0) (.acons (.lit (.int 0)) .anil)) [])) (.ret (.bin .add (.bin .add (.bin .add (.bin .mul (.lit (.str "x")) (.bin .mod (.var 3) (.lit (.int 4)))) (.ix (.var 2) (.bin .mod (.var 1) (.lit (.int 26))))) (.ix (.var 2) (.bin .mod (.bin .fdiv (.var 1) (.lit (.int 26))) (.lit (.int 26))))) (.bin .mul (.lit (.str "y")) (.bin .mod (.bin .fdiv (.var 3) (.lit (.int 4))) (.lit (.int 5))))))))
def b_L_sheets : CS := (.seq (.asg (.nm 1) (.lst false .anil)) (.seq (.asg (.nm 2) (.lit (.int 0))) (.seq (.for .rng1 (.acons (.bin .add (.lit (.int 1)) (.bin .mod (.call 76 (.acons (.var 0) (.acons (.lit (.int 1)) .anil)) []) (.lit (.int 5)))) .anil) (.nm 3) (.seq (.asg (.nm 4) (.lst false .anil)) (.seq (.clr [5, 6, 7]) (.seq (.for .rng1 (.acons (.bin .mod (.call 76 (.acons (.var 0) (.acons (.bin .add (.lit (.int 2)) (.var 3)) .anil)) []) (.lit (.int 5))) .anil) (.nm 5) (.seq (.asg (.nm 6) (.bin .mod (.call 76 (.acons (.var 0) (.acons (.bin .add (.lit (.int 8)) (.var 2)) .anil)) []) (.bin .pow (.lit (.int 10)) (.lit (.int 40))))) (.seq (.asg (.nm 7) (.bin .sub (.bin .mod (.bin .mul (.var 6) (.lit (.int 48271))) (.bin .mul (.lit (.int 2)) (.bin .pow (.lit (.int 10)) (.lit (.int 18))))) (.bin .pow (.lit (.int 10)) (.lit (.int 18))))) (.seq (.exp (.bm .append (.var 4) (.acons (.tup (.acons (.call 77 (.acons (.var 0) (.acons (.var 2) .anil)) []) (.acons (.var 7) (.acons (.bin .add (.var 7) (.bin .mod (.bin .fdiv (.var 6) (.lit (.int 3))) (.bin .pow (.lit (.int 10)) (.lit (.int 12))))) .anil)))) .anil))) (.asg (.nm 2) (.bin .add (.var 2) (.lit (.int 1))))))) [5, 6, 7]) (.seq (.frz 4) (.exp (.bm .append (.var 1) (.acons (.var 4) .anil))))))) [3, 4, 5, 6, 7]) (.seq (.frz 1) (.ret (.var 1))))))
def b_L_told : CS := (.seq (.asg (.nm 1) (.lst false .anil)) (.seq (.asg (.nm 2) (.lit (.int 0))) (.seq (.while (.and (.cmp .lt (.bi .len (.acons (.var 1) .anil)) (.bi .len (.acons (.var 0) .anil))) (.and (.isi (.ix (.var 0) (.var 2)) [.tuple]) (.and (.cmp .eq (.bi .len (.acons (.ix (.var 0) (.var 2)) .anil)) (.lit (.int 5))) (.cmp .eq (.ix (.ix (.var 0) (.var 2)) (.lit (.int 0))) (.lit (.str "ask")))))) (.seq (.exp (.bm .append (.var 1) (.acons (.sl (.ix (.var 0) (.var 2)) .npt (.prt (.lit (.int 4)))) .anil))) (.seq (.ite (.or (.not (.isi (.ix (.ix (.var 0) (.var 2)) (.lit (.int 4))) [.int])) (.inr true (.ix (.ix (.var 0) (.var 2)) (.lit (.int 4))) (.bi .len (.acons (.var 0) .anil)))) (.ret (.lit .non)) .skip) (.asg (.nm 2) (.ix (.ix (.var 0) (.var 2)) (.lit (.int 4)))))) []) (.seq (.ite (.cmp .ne (.ix (.var 0) (.var 2)) (.tup (.acons (.lit (.str "end")) .anil))) (.ret (.lit .non)) .skip) (.seq (.frz 1) (.ret (.var 1)))))))
def b_law : CS := (.seq (.asg (.nm 1) (.call 78 (.acons (.var 0) .anil) [])) (.seq (.asg (.nm 2) (.lst false .anil)) (.seq (.asg (.nm 3) (.lst false .anil)) (.seq (.for .enum (.acons (.var 1) .anil) (.tp (.cons (.nm 4) (.cons (.nm 5) .nil))) (.seq (.exp (.bm .append (.var 2) (.acons (.make 9 true (.acons (.bin .add (.lit (.str "sheet")) (.ix (.lit (.str "abcde")) (.var 4))) (.acons (.lit .non) (.acons (.lc true .seq (.acons (.var 5) .anil) (.nm 13) (.lit (.bl true)) (.make 7 true (.acons (.ix (.var 13) (.lit (.int 0))) (.acons (.make 2 true (.acons (.ix (.var 13) (.lit (.int 1))) (.acons (.ix (.var 13) (.lit (.int 2))) .anil)) []) .anil)) [.non]) [13]) (.acons (.lst true .anil) .anil)))) []) .anil))) (.exp (.bm .extend (.var 3) (.acons (.var 5) .anil)))) [4, 5]) (.seq (.frz 2) (.seq (.asg (.nm 6) (.make 10 true (.acons (.lit (.str "paper")) (.acons (.var 2) (.acons (.lst true .anil) .anil))) [])) (.seq (.asg (.nm 7) (.call 65 (.acons (.var 6) .anil) [])) (.seq (.ite (.or (.not (.isi (.var 7) [.list])) (.cmp .ne (.bi .len (.acons (.var 7) .anil)) (.bin .add (.bi .len (.acons (.var 3) .anil)) (.lit (.int 1))))) (.ret (.lit (.bl false))) .skip) (.seq (.asg (.nm 8) (.lc true .seq (.acons (.var 3) .anil) (.nm 13) (.lit (.bl true)) (.tup (.acons (.lit (.str "ask")) (.acons (.ix (.var 13) (.lit (.int 0))) (.acons (.bin .add (.bin .add (.bin .add (.lit (.str "whole ")) (.bi .str (.acons (.ix (.var 13) (.lit (.int 1))) .anil))) (.lit (.str " "))) (.bi .str (.acons (.ix (.var 13) (.lit (.int 2))) .anil))) (.acons (.lit .non) .anil))))) [13])) (.seq (.ite (.cmp .ne (.call 79 (.acons (.var 7) .anil) []) (.var 8)) (.ret (.lit (.bl false))) .skip) (.seq (.asg (.nm 9) (.bin .mod (.call 76 (.acons (.var 0) (.acons (.lit (.int 7)) .anil)) []) (.lit (.int 24)))) (.seq (.asg (.nm 10) (.dnew true false)) (.seq (.asg (.nm 11) (.lst false .anil)) (.seq (.for .enum (.acons (.sl (.var 3) .npt (.prt (.var 9))) .anil) (.tp (.cons (.nm 12) (.cons (.nm 13) .nil))) (.seq (.sidx (.var 10) (.tup (.acons (.ix (.var 13) (.lit (.int 0))) (.acons (.lit (.str "")) .anil))) (.bin .add (.ix (.var 13) (.lit (.int 1))) (.bin .mod (.call 76 (.acons (.var 0) (.acons (.bin .add (.lit (.int 30)) (.var 12)) .anil)) []) (.bin .add (.bin .sub (.ix (.var 13) (.lit (.int 2))) (.ix (.var 13) (.lit (.int 1)))) (.lit (.int 1)))))) (.exp (.bm .append (.var 11) (.acons (.tup (.acons (.lit (.str "ask")) (.acons (.ix (.var 13) (.lit (.int 0))) (.acons (.lit (.str "")) (.acons (.ix (.var 10) (.tup (.acons (.ix (.var 13) (.lit (.int 0))) (.acons (.lit (.str "")) .anil)))) .anil))))) .anil)))) [12, 13]) (.seq (.asg (.nm 14) (.tup (.acons (.lit (.str "end")) .anil))) (.seq (.ite (.cmp .lt (.var 9) (.bi .len (.acons (.var 3) .anil))) (.asg (.nm 14) (.tup (.acons (.lit (.str "open")) (.acons (.ix (.ix (.var 3) (.var 9)) (.lit (.int 0))) (.acons (.lit (.str "")) .anil))))) .skip) (.seq (.asg (.nm 15) (.bi (.list true) (.acons (.var 7) .anil))) (.seq (.ite (.or (.cmp .ne (.call 75 (.acons (.var 7) (.acons (.var 10) .anil)) []) (.bin .add (.var 11) (.lst true (.acons (.var 14) .anil)))) (.cmp .ne (.var 7) (.var 15))) (.ret (.lit (.bl false))) .skip) (.seq (.exp (.bm .clear (.var 7) .anil)) (.ret (.cmp .eq (.call 65 (.acons (.var 6) .anil) []) (.var 15))))))))))))))))))))))

abbrev f_WrongKind___init__ : Nat := 0
abbrev f_is_whole : Nat := 1
abbrev f_is_name : Nat := 2
abbrev f_are_figures : Nat := 3
abbrev f_number_of : Nat := 4
abbrev f_Kind___init__ : Nat := 5
abbrev f_Kind_fits : Nat := 6
abbrev f_YesNo___init__ : Nat := 7
abbrev f_YesNo_fits : Nat := 8
abbrev f_YesNo_shown : Nat := 9
abbrev f_YesNo_rank : Nat := 10
abbrev f_YesNo_told : Nat := 11
abbrev f_Whole_fits : Nat := 12
abbrev f_Whole_shown : Nat := 13
abbrev f_Whole_rank : Nat := 14
abbrev f_Whole_told : Nat := 15
abbrev f_hundredths : Nat := 16
abbrev f_Money_shown : Nat := 17
abbrev f_Money_told : Nat := 18
abbrev f_Pick___init__ : Nat := 19
abbrev f_Pick_fits : Nat := 20
abbrev f_Pick_shown : Nat := 21
abbrev f_Pick_rank : Nat := 22
abbrev f_Pick_told : Nat := 23
abbrev f_Names___init__ : Nat := 24
abbrev f_Names_fits : Nat := 25
abbrev f_Names_shown : Nat := 26
abbrev f_Names_rank : Nat := 27
abbrev f_Names_told : Nat := 28
abbrev f_whole_of : Nat := 29
abbrev f_money_of : Nat := 30
abbrev f_kind_of : Nat := 31
abbrev f_Row___init__ : Nat := 32
abbrev f_Ask___init__ : Nat := 33
abbrev f_Check___init__ : Nat := 34
abbrev f_Sheet___init__ : Nat := 35
abbrev f_Paper___init__ : Nat := 36
abbrev f_kinds_of : Nat := 37
abbrev f_put_in : Nat := 38
abbrev f_put_together : Nat := 39
abbrev f_Is___init__ : Nat := 40
abbrev f_Is_shown : Nat := 41
abbrev f_Is_settled : Nat := 42
abbrev f_Not___init__ : Nat := 43
abbrev f_Not_shown : Nat := 44
abbrev f_Not_settled : Nat := 45
abbrev f_Both___init__ : Nat := 46
abbrev f_Both_shown : Nat := 47
abbrev f_Both_settled : Nat := 48
abbrev f_Either___init__ : Nat := 49
abbrev f_Either_shown : Nat := 50
abbrev f_Either_settled : Nat := 51
abbrev f_Maker___init__ : Nat := 52
abbrev f_Maker_put : Nat := 53
abbrev f_Maker_atom_page : Nat := 54
abbrev f_Maker_saying_pages : Nat := 55
abbrev f_Maker_check_pages : Nat := 56
abbrev f_Maker_row_pages : Nat := 57
abbrev f_Maker_way_pages : Nat := 58
abbrev f_Maker_aim : Nat := 59
abbrev f_Maker_sheet_start : Nat := 60
abbrev f_Maker_begin : Nat := 61
abbrev f_targets_of : Nat := 62
abbrev f_exchanged : Nat := 63
abbrev f_turned : Nat := 64
abbrev f_pages_of : Nat := 65
abbrev f_compares : Nat := 66
abbrev f_Run___init__ : Nat := 67
abbrev f_Run_thing_of : Nat := 68
abbrev f_Run_ask : Nat := 69
abbrev f_Run_compare : Nat := 70
abbrev f_Run_total : Nat := 71
abbrev f_Run_more : Nat := 72
abbrev f_Run_tell : Nat := 73
abbrev f_Run_step : Nat := 74
abbrev f_run : Nat := 75
abbrev f_L_cell : Nat := 76
abbrev f_L_name : Nat := 77
abbrev f_L_sheets : Nat := 78
abbrev f_L_told : Nat := 79
abbrev f_law : Nat := 80
abbrev c_Kind : Nat := 0
abbrev c_YesNo : Nat := 1
abbrev c_Whole : Nat := 2
abbrev c_Money : Nat := 3
abbrev c_Pick : Nat := 4
abbrev c_Names : Nat := 5
abbrev c_Row : Nat := 6
abbrev c_Ask : Nat := 7
abbrev c_Check : Nat := 8
abbrev c_Sheet : Nat := 9
abbrev c_Paper : Nat := 10
abbrev c_Saying : Nat := 11
abbrev c_Is : Nat := 12
abbrev c_Not : Nat := 13
abbrev c_Both : Nat := 14
abbrev c_Either : Nat := 15
abbrev c_Maker : Nat := 16
abbrev c_Run : Nat := 17
abbrev c_AskError : Nat := 18
abbrev c_NoNumber : Nat := 19
abbrev c_NoAnswer : Nat := 20
abbrev c_NoKind : Nat := 21
abbrev c_WrongKind : Nat := 22
abbrev m_shown : Nat := 0
abbrev m_fits : Nat := 1
abbrev m_rank : Nat := 2
abbrev m_settled : Nat := 3
abbrev m_put : Nat := 4
abbrev m_saying_pages : Nat := 5
abbrev m_atom_page : Nat := 6
abbrev m_check_pages : Nat := 7
abbrev m_told : Nat := 8
abbrev m_aim : Nat := 9
abbrev m_sheet_start : Nat := 10
abbrev m_begin : Nat := 11
abbrev m_way_pages : Nat := 12
abbrev m_row_pages : Nat := 13
abbrev m_thing_of : Nat := 14
abbrev m_ask : Nat := 15
abbrev m_compare : Nat := 16
abbrev m_total : Nat := 17
abbrev m_more : Nat := 18
abbrev m_tell : Nat := 19
abbrev m_step : Nat := 20
abbrev a_name : Nat := 0
abbrev a_low : Nat := 1
abbrev a_high : Nat := 2
abbrev a_some : Nat := 3
abbrev a_kind : Nat := 4
abbrev a_when : Nat := 5
abbrev a_test : Nat := 6
abbrev a_firm : Nat := 7
abbrev a_each : Nat := 8
abbrev a_rows : Nat := 9
abbrev a_ways : Nat := 10
abbrev a_sheets : Nat := 11
abbrev a_totals : Nat := 12
abbrev a_word : Nat := 13
abbrev a_place : Nat := 14
abbrev a_one : Nat := 15
abbrev a_other : Nat := 16
abbrev a_paper : Nat := 17
abbrev a_kinds : Nat := 18
abbrev a_homes : Nat := 19
abbrev a_made : Nat := 20
abbrev a_starts : Nat := 21
abbrev a_number : Nat := 22
abbrev a_how : Nat := 23
abbrev a_book : Nat := 24
abbrev a_log : Nat := 25
abbrev a_filled : Nat := 26
abbrev a_tallied : Nat := 27
abbrev a_named : Nat := 28
abbrev a_thing : Nat := 29
def fns : List FnT := [⟨2, 2, b_WrongKind___init__⟩,
  ⟨1, 1, b_is_whole⟩,
  ⟨1, 2, b_is_name⟩,
  ⟨2, 3, b_are_figures⟩,
  ⟨2, 3, b_number_of⟩,
  ⟨3, 3, b_Kind___init__⟩,
  ⟨2, 2, b_Kind_fits⟩,
  ⟨1, 1, b_YesNo___init__⟩,
  ⟨2, 2, b_YesNo_fits⟩,
  ⟨2, 2, b_YesNo_shown⟩,
  ⟨2, 2, b_YesNo_rank⟩,
  ⟨1, 1, b_YesNo_told⟩,
  ⟨2, 2, b_Whole_fits⟩,
  ⟨2, 2, b_Whole_shown⟩,
  ⟨2, 2, b_Whole_rank⟩,
  ⟨1, 1, b_Whole_told⟩,
  ⟨1, 6, b_hundredths⟩,
  ⟨2, 5, b_Money_shown⟩,
  ⟨1, 1, b_Money_told⟩,
  ⟨2, 2, b_Pick___init__⟩,
  ⟨2, 2, b_Pick_fits⟩,
  ⟨2, 2, b_Pick_shown⟩,
  ⟨2, 2, b_Pick_rank⟩,
  ⟨1, 1, b_Pick_told⟩,
  ⟨2, 2, b_Names___init__⟩,
  ⟨2, 3, b_Names_fits⟩,
  ⟨2, 2, b_Names_shown⟩,
  ⟨2, 2, b_Names_rank⟩,
  ⟨1, 1, b_Names_told⟩,
  ⟨1, 3, b_whole_of⟩,
  ⟨1, 3, b_money_of⟩,
  ⟨1, 4, b_kind_of⟩,
  ⟨2, 2, b_Row___init__⟩,
  ⟨4, 4, b_Ask___init__⟩,
  ⟨4, 4, b_Check___init__⟩,
  ⟨5, 5, b_Sheet___init__⟩,
  ⟨4, 4, b_Paper___init__⟩,
  ⟨1, 4, b_kinds_of⟩,
  ⟨3, 9, b_put_in⟩,
  ⟨2, 7, b_put_together⟩,
  ⟨4, 4, b_Is___init__⟩,
  ⟨1, 1, b_Is_shown⟩,
  ⟨2, 3, b_Is_settled⟩,
  ⟨2, 2, b_Not___init__⟩,
  ⟨1, 1, b_Not_shown⟩,
  ⟨2, 2, b_Not_settled⟩,
  ⟨3, 3, b_Both___init__⟩,
  ⟨1, 1, b_Both_shown⟩,
  ⟨2, 3, b_Both_settled⟩,
  ⟨3, 3, b_Either___init__⟩,
  ⟨1, 1, b_Either_shown⟩,
  ⟨2, 3, b_Either_settled⟩,
  ⟨2, 4, b_Maker___init__⟩,
  ⟨2, 2, b_Maker_put⟩,
  ⟨4, 8, b_Maker_atom_page⟩,
  ⟨4, 4, b_Maker_saying_pages⟩,
  ⟨4, 6, b_Maker_check_pages⟩,
  ⟨3, 5, b_Maker_row_pages⟩,
  ⟨2, 6, b_Maker_way_pages⟩,
  ⟨2, 4, b_Maker_aim⟩,
  ⟨2, 2, b_Maker_sheet_start⟩,
  ⟨2, 6, b_Maker_begin⟩,
  ⟨1, 1, b_targets_of⟩,
  ⟨2, 2, b_exchanged⟩,
  ⟨2, 4, b_turned⟩,
  ⟨1, 6, b_pages_of⟩,
  ⟨3, 3, b_compares⟩,
  ⟨2, 2, b_Run___init__⟩,
  ⟨2, 2, b_Run_thing_of⟩,
  ⟨2, 11, b_Run_ask⟩,
  ⟨2, 11, b_Run_compare⟩,
  ⟨2, 12, b_Run_total⟩,
  ⟨2, 7, b_Run_more⟩,
  ⟨2, 2, b_Run_tell⟩,
  ⟨2, 3, b_Run_step⟩,
  ⟨2, 4, b_run⟩,
  ⟨2, 3, b_L_cell⟩,
  ⟨2, 4, b_L_name⟩,
  ⟨1, 8, b_L_sheets⟩,
  ⟨1, 3, b_L_told⟩,
  ⟨1, 16, b_law⟩]
def consts : List D := [(.str "abcdefghijklmnopqrstuvwxyz"), (.str "0123456789"), (.wtup [(.str "and"), (.str "each"), (.str "end"), (.str "is"), (.str "not"), (.str "or"), (.str "unless"), (.str "when")]), (.int 12)]
def mth : List (List (Nat × Nat)) := [[(1, 6)], [(0, 9), (1, 8), (2, 10), (8, 11)], [(0, 13), (1, 12), (2, 14), (8, 15)], [(0, 17), (1, 12), (2, 14), (8, 18)], [(0, 21), (1, 20), (2, 22), (8, 23)], [(0, 26), (1, 25), (2, 27), (8, 28)], [], [], [], [], [], [], [(0, 41), (3, 42)], [(0, 44), (3, 45)], [(0, 47), (3, 48)], [(0, 50), (3, 51)], [(4, 53), (5, 55), (6, 54), (7, 56), (9, 59), (10, 60), (11, 61), (12, 58), (13, 57)], [(14, 68), (15, 69), (16, 70), (17, 71), (18, 72), (19, 73), (20, 74)], [], [], [], [], []]
def init : List (Option Nat) := [some 5, some 7, some 5, some 5, some 19, some 24, some 32, some 33, some 34, some 35, some 36, none, some 40, some 43, some 46, some 49, some 52, some 67, none, none, none, none, none]
def sub : List (List Nat) := [[0], [1, 0], [2, 0], [3, 2, 0], [4, 0], [5, 0], [6], [7, 6], [8, 6], [9], [10], [11], [12, 11], [13, 11], [14, 11], [15, 11], [16], [17]]
def fok : List (List Nat) := [[1, 2], [1, 2], [1, 2], [1, 2], [3, 1, 2], [1, 2], [0], [4, 5, 0], [6, 7, 0], [0, 8, 9, 10], [0, 11, 12], [], [0, 13, 14], [6], [15, 16], [15, 16], [17, 18, 12, 19, 20, 21], [24, 25, 26, 27, 28, 14, 29], [], [], [], [], []]
def P : Prog := ⟨fns, consts, mth, init, sub, fok, 100000⟩
@[simp] theorem fk_0_1 : fokB P.fok 0 1 = true := (by decide)
@[simp] theorem fk_0_2 : fokB P.fok 0 2 = true := (by decide)
@[simp] theorem fk_1_1 : fokB P.fok 1 1 = true := (by decide)
@[simp] theorem fk_1_2 : fokB P.fok 1 2 = true := (by decide)
@[simp] theorem fk_2_1 : fokB P.fok 2 1 = true := (by decide)
@[simp] theorem fk_2_2 : fokB P.fok 2 2 = true := (by decide)
@[simp] theorem fk_3_1 : fokB P.fok 3 1 = true := (by decide)
@[simp] theorem fk_3_2 : fokB P.fok 3 2 = true := (by decide)
@[simp] theorem fk_4_3 : fokB P.fok 4 3 = true := (by decide)
@[simp] theorem fk_4_1 : fokB P.fok 4 1 = true := (by decide)
@[simp] theorem fk_4_2 : fokB P.fok 4 2 = true := (by decide)
@[simp] theorem fk_5_1 : fokB P.fok 5 1 = true := (by decide)
@[simp] theorem fk_5_2 : fokB P.fok 5 2 = true := (by decide)
@[simp] theorem fk_6_0 : fokB P.fok 6 0 = true := (by decide)
@[simp] theorem fk_7_4 : fokB P.fok 7 4 = true := (by decide)
@[simp] theorem fk_7_5 : fokB P.fok 7 5 = true := (by decide)
@[simp] theorem fk_7_0 : fokB P.fok 7 0 = true := (by decide)
@[simp] theorem fk_8_6 : fokB P.fok 8 6 = true := (by decide)
@[simp] theorem fk_8_7 : fokB P.fok 8 7 = true := (by decide)
@[simp] theorem fk_8_0 : fokB P.fok 8 0 = true := (by decide)
@[simp] theorem fk_9_0 : fokB P.fok 9 0 = true := (by decide)
@[simp] theorem fk_9_8 : fokB P.fok 9 8 = true := (by decide)
@[simp] theorem fk_9_9 : fokB P.fok 9 9 = true := (by decide)
@[simp] theorem fk_9_10 : fokB P.fok 9 10 = true := (by decide)
@[simp] theorem fk_10_0 : fokB P.fok 10 0 = true := (by decide)
@[simp] theorem fk_10_11 : fokB P.fok 10 11 = true := (by decide)
@[simp] theorem fk_10_12 : fokB P.fok 10 12 = true := (by decide)
@[simp] theorem fk_12_0 : fokB P.fok 12 0 = true := (by decide)
@[simp] theorem fk_12_13 : fokB P.fok 12 13 = true := (by decide)
@[simp] theorem fk_12_14 : fokB P.fok 12 14 = true := (by decide)
@[simp] theorem fk_13_6 : fokB P.fok 13 6 = true := (by decide)
@[simp] theorem fk_14_15 : fokB P.fok 14 15 = true := (by decide)
@[simp] theorem fk_14_16 : fokB P.fok 14 16 = true := (by decide)
@[simp] theorem fk_15_15 : fokB P.fok 15 15 = true := (by decide)
@[simp] theorem fk_15_16 : fokB P.fok 15 16 = true := (by decide)
@[simp] theorem fk_16_17 : fokB P.fok 16 17 = true := (by decide)
@[simp] theorem fk_16_18 : fokB P.fok 16 18 = true := (by decide)
@[simp] theorem fk_16_12 : fokB P.fok 16 12 = true := (by decide)
@[simp] theorem fk_16_19 : fokB P.fok 16 19 = true := (by decide)
@[simp] theorem fk_16_20 : fokB P.fok 16 20 = true := (by decide)
@[simp] theorem fk_16_21 : fokB P.fok 16 21 = true := (by decide)
@[simp] theorem fk_17_24 : fokB P.fok 17 24 = true := (by decide)
@[simp] theorem fk_17_25 : fokB P.fok 17 25 = true := (by decide)
@[simp] theorem fk_17_26 : fokB P.fok 17 26 = true := (by decide)
@[simp] theorem fk_17_27 : fokB P.fok 17 27 = true := (by decide)
@[simp] theorem fk_17_28 : fokB P.fok 17 28 = true := (by decide)
@[simp] theorem fk_17_14 : fokB P.fok 17 14 = true := (by decide)
@[simp] theorem fk_17_29 : fokB P.fok 17 29 = true := (by decide)
@[simp] theorem mt_0_1 : mlk P 0 1 = some 6 := (rfl)
@[simp] theorem mt_1_0 : mlk P 1 0 = some 9 := (rfl)
@[simp] theorem mt_1_1 : mlk P 1 1 = some 8 := (rfl)
@[simp] theorem mt_1_2 : mlk P 1 2 = some 10 := (rfl)
@[simp] theorem mt_1_8 : mlk P 1 8 = some 11 := (rfl)
@[simp] theorem mt_2_0 : mlk P 2 0 = some 13 := (rfl)
@[simp] theorem mt_2_1 : mlk P 2 1 = some 12 := (rfl)
@[simp] theorem mt_2_2 : mlk P 2 2 = some 14 := (rfl)
@[simp] theorem mt_2_8 : mlk P 2 8 = some 15 := (rfl)
@[simp] theorem mt_3_0 : mlk P 3 0 = some 17 := (rfl)
@[simp] theorem mt_3_1 : mlk P 3 1 = some 12 := (rfl)
@[simp] theorem mt_3_2 : mlk P 3 2 = some 14 := (rfl)
@[simp] theorem mt_3_8 : mlk P 3 8 = some 18 := (rfl)
@[simp] theorem mt_4_0 : mlk P 4 0 = some 21 := (rfl)
@[simp] theorem mt_4_1 : mlk P 4 1 = some 20 := (rfl)
@[simp] theorem mt_4_2 : mlk P 4 2 = some 22 := (rfl)
@[simp] theorem mt_4_8 : mlk P 4 8 = some 23 := (rfl)
@[simp] theorem mt_5_0 : mlk P 5 0 = some 26 := (rfl)
@[simp] theorem mt_5_1 : mlk P 5 1 = some 25 := (rfl)
@[simp] theorem mt_5_2 : mlk P 5 2 = some 27 := (rfl)
@[simp] theorem mt_5_8 : mlk P 5 8 = some 28 := (rfl)
@[simp] theorem mt_12_0 : mlk P 12 0 = some 41 := (rfl)
@[simp] theorem mt_12_3 : mlk P 12 3 = some 42 := (rfl)
@[simp] theorem mt_13_0 : mlk P 13 0 = some 44 := (rfl)
@[simp] theorem mt_13_3 : mlk P 13 3 = some 45 := (rfl)
@[simp] theorem mt_14_0 : mlk P 14 0 = some 47 := (rfl)
@[simp] theorem mt_14_3 : mlk P 14 3 = some 48 := (rfl)
@[simp] theorem mt_15_0 : mlk P 15 0 = some 50 := (rfl)
@[simp] theorem mt_15_3 : mlk P 15 3 = some 51 := (rfl)
@[simp] theorem mt_16_4 : mlk P 16 4 = some 53 := (rfl)
@[simp] theorem mt_16_5 : mlk P 16 5 = some 55 := (rfl)
@[simp] theorem mt_16_6 : mlk P 16 6 = some 54 := (rfl)
@[simp] theorem mt_16_7 : mlk P 16 7 = some 56 := (rfl)
@[simp] theorem mt_16_9 : mlk P 16 9 = some 59 := (rfl)
@[simp] theorem mt_16_10 : mlk P 16 10 = some 60 := (rfl)
@[simp] theorem mt_16_11 : mlk P 16 11 = some 61 := (rfl)
@[simp] theorem mt_16_12 : mlk P 16 12 = some 58 := (rfl)
@[simp] theorem mt_16_13 : mlk P 16 13 = some 57 := (rfl)
@[simp] theorem mt_17_14 : mlk P 17 14 = some 68 := (rfl)
@[simp] theorem mt_17_15 : mlk P 17 15 = some 69 := (rfl)
@[simp] theorem mt_17_16 : mlk P 17 16 = some 70 := (rfl)
@[simp] theorem mt_17_17 : mlk P 17 17 = some 71 := (rfl)
@[simp] theorem mt_17_18 : mlk P 17 18 = some 72 := (rfl)
@[simp] theorem mt_17_19 : mlk P 17 19 = some 73 := (rfl)
@[simp] theorem mt_17_20 : mlk P 17 20 = some 74 := (rfl)
@[simp] theorem in_0 : P.init.getD 0 none = some 5 := (rfl)
@[simp] theorem in_1 : P.init.getD 1 none = some 7 := (rfl)
@[simp] theorem in_2 : P.init.getD 2 none = some 5 := (rfl)
@[simp] theorem in_3 : P.init.getD 3 none = some 5 := (rfl)
@[simp] theorem in_4 : P.init.getD 4 none = some 19 := (rfl)
@[simp] theorem in_5 : P.init.getD 5 none = some 24 := (rfl)
@[simp] theorem in_6 : P.init.getD 6 none = some 32 := (rfl)
@[simp] theorem in_7 : P.init.getD 7 none = some 33 := (rfl)
@[simp] theorem in_8 : P.init.getD 8 none = some 34 := (rfl)
@[simp] theorem in_9 : P.init.getD 9 none = some 35 := (rfl)
@[simp] theorem in_10 : P.init.getD 10 none = some 36 := (rfl)
@[simp] theorem in_12 : P.init.getD 12 none = some 40 := (rfl)
@[simp] theorem in_13 : P.init.getD 13 none = some 43 := (rfl)
@[simp] theorem in_14 : P.init.getD 14 none = some 46 := (rfl)
@[simp] theorem in_15 : P.init.getD 15 none = some 49 := (rfl)
@[simp] theorem in_16 : P.init.getD 16 none = some 52 := (rfl)
@[simp] theorem in_17 : P.init.getD 17 none = some 67 := (rfl)
@[simp] theorem co_0 : P.consts[0]? = some (.str "abcdefghijklmnopqrstuvwxyz") := (rfl)
@[simp] theorem co_1 : P.consts[1]? = some (.str "0123456789") := (rfl)
@[simp] theorem co_2 : P.consts[2]? = some (.wtup [(.str "and"), (.str "each"), (.str "end"), (.str "is"), (.str "not"), (.str "or"), (.str "unless"), (.str "when")]) := (rfl)
@[simp] theorem co_3 : P.consts[3]? = some (.int 12) := (rfl)
end Tx

set_option linter.all false
set_option maxRecDepth 100000
namespace K71
open PySem L2 Co Tx
def mixC (ns : List Int) (k : Nat) : Int := (k : Int) * 48271 + 11 + (if 0 < ns.length then ns.getD (k * 7 % ns.length) 0 % 2147483647 * 69621 else 0)
def cellI (ns : List Int) (k : Nat) : Int := if k < ns.length then ns.getD k 0 else mixC ns k * mixC ns k % 2147483629
theorem mix_lt (ns : List Int) {k : Nat} (hk : k ≤ 1000) : 0 ≤ mixC ns k ∧ mixC ns k < 2 ^ 60 := by
  unfold mixC
  split
  · generalize ns.getD (k * 7 % ns.length) 0 = z
    omega
  · omega
theorem cell_run (ns : List Int) (k n : Nat) (μ : Store) (hk : k ≤ 1000) (hl : ns.length ≤ 63) : run P (n + 1) f_L_cell [.lst (ns.map D.int), .int k] μ = .ok (.int (cellI ns k)) μ := by
  rw [run_def (F := ⟨2, 3, b_L_cell⟩) rfl rfl]
  by_cases h : k < ns.length
  · simp [b_L_cell, h, atI_nat', cellI]
  · have hm := mix_lt ns hk
    have m1 : mulB (k : Int) 48271 = true := mulB_s (by omega) (by omega) (by omega) (by omega)
    have m2 : mulB (k : Int) 7 = true := mulB_s (by omega) (by omega) (by omega) (by omega)
    have m3 : mulB (mixC ns k) (mixC ns k) = true := mulB_s (by omega) (by omega) (by omega) (by omega)
    by_cases h0 : 0 < ns.length
    · have h0' : (0 : Int) < (ns.length : Int) := by omega
      have e : ((k : Int) * 7) % (ns.length : Int) = ((k * 7 % ns.length : Nat) : Int) := by simp
      have hlt : k * 7 % ns.length < ns.length := Nat.mod_lt _ h0
      have em : mixC ns k = (k : Int) * 48271 + 11 + ns[k * 7 % ns.length] % 2147483647 * 69621 := by
        unfold mixC
        rw [if_pos h0]
        simp [List.getD, hlt]
      have m4 : mulB (ns[k * 7 % ns.length] % 2147483647) 69621 = true := mulB_s (by omega) (by omega) (by omega) (by omega)
      have hix : atI (ns.map D.int) ((k : Int) * 7 % (ns.length : Int)) = some (.int ns[k * 7 % ns.length]) := by
        rw [e, atI_nat']
        simp [hlt]
      simp [b_L_cell, h, cellI, binS_mul _ _ _ m1, binS_mod, h0, binS_mul _ _ _ m2, hix, binS_mul _ _ _ m4, ← em, binS_mul _ _ _ m3]
    · obtain rfl : ns = [] := by simpa using h0
      have em : mixC [] k = (k : Int) * 48271 + 11 := by simp [mixC]
      have m3' := m3
      rw [em] at m3'
      simp [b_L_cell, cellI, binS_mul _ _ _ m1, binS_mod, em, binS_mul _ _ _ m3', show ¬ ((k : Int) < 0) by omega]
end K71
namespace K71
open PySem L2 Co Tx
def nameS (ns : List Int) (k : Nat) : Str := Txt.mul "x" (cellI ns 0 % 4) ++ ⟨#[97 + k % 26]⟩ ++ ⟨#[97 + k / 26 % 26]⟩ ++ Txt.mul "y" (cellI ns 0 / 4 % 5)
theorem abc_ix (m : Nat) (h : m < 26) : (("abcdefghijklmnopqrstuvwxyz" : Str).cps.toList)[m]? = some (97 + m) := by
  revert m
  decide +kernel
theorem cell_runI (ns : List Int) (i : Int) (n : Nat) (μ : Store) (h0 : 0 ≤ i) (hk : i ≤ 1000) (hl : ns.length ≤ 63) : run P (n + 1) f_L_cell [.lst (ns.map D.int), .int i] μ = .ok (.int (cellI ns i.toNat)) μ := by
  have h := cell_run ns i.toNat n μ (by omega) hl
  rwa [show ((i.toNat : Nat) : Int) = i by omega] at h
theorem name_run (ns : List Int) (k n : Nat) (μ : Store) (hk : k ≤ 1000) (hl : ns.length ≤ 63) : run P (n + 2) f_L_name [.lst (ns.map D.int), .int k] μ = .ok (.str (nameS ns k)) μ := by
  rw [run_def (F := ⟨2, 4, b_L_name⟩) rfl rfl]
  have hc := cell_runI ns 0 n μ (by omega) (by omega) hl
  have e1 : atI (("abcdefghijklmnopqrstuvwxyz" : Str).cps.toList) ((k : Int) % 26) = some (97 + k % 26) := by
    rw [show (k : Int) % 26 = ((k % 26 : Nat) : Int) by omega, atI_nat', abc_ix _ (by omega)]
  have e2 : atI (("abcdefghijklmnopqrstuvwxyz" : Str).cps.toList) ((k : Int) / 26 % 26) = some (97 + k / 26 % 26) := by
    rw [show (k : Int) / 26 % 26 = ((k / 26 % 26 : Nat) : Int) by omega, atI_nat', abc_ix _ (by omega)]
  have s1 : sz ("abcdefghijklmnopqrstuvwxyz" : Str).length = true := by decide +kernel
  have d1 : divB 4 = true := by decide
  have d2 : divB 26 = true := by decide
  have m1 : mulSB "x" (cellI ns 0 % 4) = true := decide_eq_true ⟨by omega, by omega, by decide⟩
  have m2 : mulSB "y" (cellI ns 0 / 4 % 5) = true := decide_eq_true ⟨by omega, by omega, by decide⟩
  have l1 : (Txt.mul "x" (cellI ns 0 % 4)).length ≤ 3 := by rw [mul_len]; show _ * 1 ≤ _; omega
  have l2 : (Txt.mul "y" (cellI ns 0 / 4 % 5)).length ≤ 4 := by rw [mul_len]; show _ * 1 ≤ _; omega
  have z1 : sz ((Txt.mul "x" (cellI ns 0 % 4)).length + (⟨#[97 + k % 26]⟩ : Str).length) = true := sz_of (by rw [len_one]; omega)
  have z2 : sz ((Txt.mul "x" (cellI ns 0 % 4) ++ ⟨#[97 + k % 26]⟩).length + (⟨#[97 + k / 26 % 26]⟩ : Str).length) = true := sz_of (by rw [len_app, len_one, len_one]; omega)
  have z3 : sz ((Txt.mul "x" (cellI ns 0 % 4) ++ ⟨#[97 + k % 26]⟩ ++ ⟨#[97 + k / 26 % 26]⟩).length + (Txt.mul "y" (cellI ns 0 / 4 % 5)).length) = true := sz_of (by rw [len_app, len_app, len_one, len_one]; omega)
  simp [b_L_name, hc, binS_mod, binS_fdiv _ _ _ d1, binS_fdiv _ _ _ d2, ixS_str _ _ _ s1, e1, e2, binS_muls _ _ _ m1, binS_muls _ _ _ m2, binS_adds _ _ _ z1, binS_adds _ _ _ z2, binS_adds _ _ _ z3, nameS]
end K71

set_option linter.all false
set_option maxRecDepth 100000
namespace K71
open PySem L2 Co Tx
/-- a row: its name, the least and the greatest answer -/
structure Row where
  nm : Str
  lo : Int
  hi : Int
def rowD (r : Row) : D := .tup [.str r.nm, .int r.lo, .int r.hi]
def c40 (ns : List Int) (k : Nat) : Int := cellI ns (8 + k) % 10000000000000000000000000000000000000000
def lowI (ns : List Int) (k : Nat) : Int := c40 ns k * 48271 % 2000000000000000000 - 1000000000000000000
def rowOf (ns : List Int) (k : Nat) : Row := ⟨nameS ns k, lowI ns k, lowI ns k + c40 ns k / 3 % 1000000000000⟩
def sIn : CS := match b_L_sheets with
  | .seq _ (.seq _ (.seq (.for _ _ _ (.seq _ (.seq _ (.seq (.for _ _ _ b _) _))) _) _)) => b
  | _ => .skip
theorem in_step (ns : List Int) (k n i2 : Nat) (μ : Store) (acc : List D) (e0 e1 e3 e5 : Option D) (hk : k ≤ 900) (hl : ns.length ≤ 63) (h2 : μ[i2]? = some (.lst acc)) (ha : acc.length ≤ 1000) :
    ∃ a b, evS P (run P (n + 2)) sIn [some (.lst (ns.map D.int)), e1, some (.int k), e3, some (.cell i2), e5, none, none] μ =
      .ok (.nx, [some (.lst (ns.map D.int)), e1, some (.int (k + 1)), e3, some (.cell i2), e5, a, b]) (μ.set i2 (.lst (acc ++ [rowD (rowOf ns k)]))) := by
  have hc := cell_runI ns (8 + k) (n + 1) μ (by omega) (by omega) hl
  rw [show (8 + (k : Int)).toNat = 8 + k by omega] at hc
  have hn := name_run ns k n μ (by omega) hl
  have b1 : 0 ≤ c40 ns k ∧ c40 ns k < 10000000000000000000000000000000000000000 := by unfold c40; omega
  have m1 : mulB (c40 ns k) 48271 = true := mulB_s (by omega) (by omega) (by omega) (by omega)
  have m2 : mulB 2 1000000000000000000 = true := mulB_s (by omega) (by omega) (by omega) (by omega)
  have p1 : powB 10 40 = true := by decide
  have p2 : powB 10 18 = true := by decide
  have p3 : powB 10 12 = true := by decide
  have d1 : divB 3 = true := by decide
  have hz : sz (acc.length + 1) = true := sz_of (by omega)
  have ec : cellI ns (8 + k) % 10000000000000000000000000000000000000000 = c40 ns k := rfl
  have el : c40 ns k * 48271 % 2000000000000000000 - 1000000000000000000 = lowI ns k := rfl
  simp [sIn, b_L_sheets, hc, hn, binS_mod, binS_pow _ _ _ p1, binS_pow _ _ _ p2, binS_pow _ _ _ p3, ec, binS_mul _ _ _ m1, binS_mul _ _ _ m2, el, binS_fdiv _ _ _ d1, bmT_app h2, bm_app h2 hz, rowD, rowOf]
end K71

set_option linter.all false
set_option maxRecDepth 100000
namespace K71
open PySem L2 Co Tx
def rowsD (ns : List Int) (k0 m : Nat) : List D := (List.range m).map fun t => rowD (rowOf ns (k0 + t))
theorem in_loop (ns : List Int) (k0 m n i2 : Nat) (μ : Store) (e1 e3 : Option D) (hk : k0 + m ≤ 900) (hl : ns.length ≤ 63) (h2 : μ[i2]? = some (.lst [])) :
    forS (evS P (run P (n + 2)) sIn) (.nm 5) .rng1 [.int m] [5, 6, 7] [some (.lst (ns.map D.int)), e1, some (.int k0), e3, some (.cell i2), none, none, none] μ =
      .ok (.nx, [some (.lst (ns.map D.int)), e1, some (.int ((k0 + m : Nat) : Int)), e3, some (.cell i2), none, none, none]) (μ.set i2 (.lst (rowsD ns k0 m))) := by
  have hr : inR (m : Int) = true := inR_of (by omega) (by omega)
  have h := forS_fn (body := evS P (run P (n + 2)) sIn) (tg := .nm 5) (clr := [5, 6, 7]) (k := .rng1) (ds := [.int m]) (μ := μ) (env := [some (.lst (ns.map D.int)), e1, some (.int k0), e3, some (.cell i2), none, none, none])
    (fun j => ([some (.lst (ns.map D.int)), e1, some (.int ((k0 + j : Nat) : Int)), e3, some (.cell i2), none, none, none], μ.set i2 (.lst (rowsD ns k0 j)))) (it_rng1 μ _ hr)
    (by
      show (_, μ.set i2 (.lst [])) = _
      rw [set_self' h2]
      rfl)
    (fun j hj => stay_rng1 _ _ _ hr) (fun j hj => by
      have hj' : j < m := by simpa using hj
      obtain ⟨a, b, e⟩ := in_step ns (k0 + j) n i2 (μ.set i2 (.lst (rowsD ns k0 j))) (rowsD ns k0 j) none e1 e3 (some (.int j)) (by omega) hl (get_set_self h2) (by simp [rowsD]; omega)
      refine ⟨[some (.lst (ns.map D.int)), e1, some (.int ((k0 + j : Nat) : Int)), e3, some (.cell i2), some (.int j), none, none], _, _, by simp, e, ?_⟩
      rw [tEnd_len (by simp)]
      simp [rowsD, map_range_succ]
      omega)
  simpa using h
def mOf (ns : List Int) (s : Nat) : Nat := (cellI ns (2 + s) % 5).toNat
def startOf (ns : List Int) : Nat → Nat
  | 0 => 0
  | s + 1 => startOf ns s + mOf ns s
def nSh (ns : List Int) : Nat := (1 + cellI ns 1 % 5).toNat
def shD (ns : List Int) (j : Nat) : List D := (List.range j).map fun s => .lst (rowsD ns (startOf ns s) (mOf ns s))
theorem mOf_le (ns : List Int) (s : Nat) : mOf ns s ≤ 4 := by unfold mOf; omega
theorem start_le (ns : List Int) : ∀ s, startOf ns s ≤ 4 * s
  | 0 => Nat.le_refl _
  | s + 1 => by
    have := start_le ns s
    have := mOf_le ns s
    unfold startOf
    omega
theorem nSh_le (ns : List Int) : nSh ns ≤ 5 := by unfold nSh; omega
def sOut : CS := match b_L_sheets with
  | .seq _ (.seq _ (.seq (.for _ _ _ b _) _)) => b
  | _ => .skip
theorem rows_lt (ns : List Int) (k m n : Nat) : D.lts n (rowsD ns k m) = true := lts_map n _ _ fun x _ => by simp [rowD]
theorem shD_lt (ns : List Int) (j n : Nat) : D.lts n (shD ns j) = true := lts_map n _ _ fun x _ => by simp [rows_lt]
theorem out_step (ns : List Int) (j n : Nat) (μ0 : Store) (e5 e6 e7 : Option D) (hj : j ≤ 5) (hl : ns.length ≤ 63) :
    ∃ env2 μ2, evS P (run P (n + 2)) sOut [some (.lst (ns.map D.int)), some (.cell μ0.length), some (.int (startOf ns j : Nat)), some (.int j), none, e5, e6, e7] (μ0 ++ [.lst (shD ns j)]) = .ok (.nx, env2) μ2 ∧
      tEnd (μ0 ++ [.lst (shD ns j)]) [3, 4, 5, 6, 7] env2 μ2 = ([some (.lst (ns.map D.int)), some (.cell μ0.length), some (.int (startOf ns (j + 1) : Nat)), none, none, none, none, none], μ0 ++ [.lst (shD ns (j + 1))]) := by
  have hc := cell_runI ns (2 + j) (n + 1) (μ0 ++ [.lst (shD ns j), .lst []]) (by omega) (by omega) hl
  rw [show (2 + (j : Int)).toNat = 2 + j by omega] at hc
  have em : cellI ns (2 + j) % 5 = ((mOf ns j : Nat) : Int) := by unfold mOf; omega
  have hlp := in_loop ns (startOf ns j) (mOf ns j) n (μ0.length + 1) (μ0 ++ [.lst (shD ns j), .lst []]) (some (.cell μ0.length)) (some (.int j)) (by have := start_le ns j; have := mOf_le ns j; omega) hl (by simp)
  simp only [sIn, b_L_sheets] at hlp
  simp only [sOut, b_L_sheets]
  have hz : sz ((shD ns j).length + 1) = true := sz_of (by simp [shD]; omega)
  have hsh : shD ns (j + 1) = shD ns j ++ [.lst (rowsD ns (startOf ns j) (mOf ns j))] := by simp [shD, map_range_succ]
  refine ⟨[some (.lst (ns.map D.int)), some (.cell μ0.length), some (.int (startOf ns (j + 1) : Nat)), some (.int j), some (.lst (rowsD ns (startOf ns j) (mOf ns j))), none, none, none], μ0 ++ [.lst (shD ns (j + 1))] ++ [.dead], ?_, ?_⟩
  · simp [hc, em, binS_mod, hlp, hz, startOf, hsh]
    trace_state
  · rw [tEnd_drop (by simp) ?_ (by simp)]
    · simp
    · rw [keeps_pre]
      exact keeps_c1 _ (by simp [shD_lt]) (by simp)
theorem sheets_run (ns : List Int) (n : Nat) (μ : Store) (hl : ns.length ≤ 63) : run P (n + 3) f_L_sheets [.lst (ns.map D.int)] μ = .ok (.lst (shD ns (nSh ns))) μ := by
  rw [run_def (F := ⟨1, 8, b_L_sheets⟩) rfl rfl]
  have hc := cell_runI ns 1 (n + 1) (μ ++ [.lst []]) (by omega) (by omega) hl
  have hn : 1 + cellI ns 1 % 5 = ((nSh ns : Nat) : Int) := by unfold nSh; omega
  have h5 := nSh_le ns
  have hr : inR (nSh ns : Int) = true := inR_of (by omega) (by omega)
  have hlp := forS_fn (body := evS P (run P (n + 2)) sOut) (tg := .nm 3) (clr := [3, 4, 5, 6, 7]) (k := .rng1) (ds := [.int (nSh ns)]) (μ := μ ++ [.lst []]) (env := [some (.lst (ns.map D.int)), some (.cell μ.length), some (.int 0), none, none, none, none, none])
    (fun j => ([some (.lst (ns.map D.int)), some (.cell μ.length), some (.int (startOf ns j : Nat)), none, none, none, none, none], μ ++ [.lst (shD ns j)])) (it_rng1 _ _ hr) rfl
    (fun j hj => stay_rng1 _ _ _ hr) (fun j hj => by
      have hj' : j < nSh ns := by simpa using hj
      obtain ⟨env2, μ2, h1, h2⟩ := out_step ns j n μ none none none (by omega) hl
      exact ⟨_, env2, μ2, by simp, h1, h2⟩)
  simp only [sOut, b_L_sheets] at hlp
  simp [b_L_sheets, hc, binS_mod, hn, hlp]
  exact leave_new _ _ (by simp [shD_lt])
end K71

set_option linter.all false
set_option maxRecDepth 100000
namespace K71
open PySem L2 Co Tx
/-! ### things made -/
def kindD (r : Row) : D := .ins 2 [(1, .int r.lo), (2, .int r.hi)]
def askD (r : Row) : D := .ins 7 [(0, .str r.nm), (4, kindD r), (5, .non)]
structure Sh where
  nm : Str
  rows : List Row
def shtD (s : Sh) : D := .ins 9 [(0, .str s.nm), (8, .non), (9, .lst (s.rows.map askD)), (10, .lst [])]
def papD (ss : List Sh) : D := .ins 10 [(0, .str "paper"), (11, .lst (ss.map shtD)), (12, .lst [])]
theorem ask_lt (n : Nat) (r : Row) : (askD r).lt n = true := by simp [askD, kindD]
theorem asks_lt (n : Nat) (rs : List Row) : D.lts n (rs.map askD) = true := lts_map n _ _ fun x _ => ask_lt n x
theorem sht_lt (n : Nat) (s : Sh) : (shtD s).lt n = true := by simp [shtD, asks_lt]
theorem shts_lt (n : Nat) (ss : List Sh) : D.lts n (ss.map shtD) = true := lts_map n _ _ fun x _ => sht_lt n x
theorem pap_lt (n : Nat) (ss : List Sh) : (papD ss).lt n = true := by simp [papD, shts_lt]
theorem kind_init (n i : Nat) (lo hi : Int) (μ : Store) (h : μ[i]? = some (.ins 2 [])) : run P (n + 1) 5 [.cell i, .int lo, .int hi] μ = .ok .non (μ.set i (.ins 2 [(1, .int lo), (2, .int hi)])) := by
  rw [run_def (F := ⟨3, 3, b_Kind___init__⟩) rfl rfl]
  simp [b_Kind___init__, h, fput, get_set_self h]
theorem row_init (n i : Nat) (x : Str) (μ : Store) (h : μ[i]? = some (.ins 7 [])) : run P (n + 1) 32 [.cell i, .str x] μ = .ok .non (μ.set i (.ins 7 [(0, .str x)])) := by
  rw [run_def (F := ⟨2, 2, b_Row___init__⟩) rfl rfl]
  simp [b_Row___init__, h, fput]
theorem ask_init (n i : Nat) (x : Str) (k w : D) (μ : Store) (h : μ[i]? = some (.ins 7 [])) : run P (n + 2) 33 [.cell i, .str x, k, w] μ = .ok .non (μ.set i (.ins 7 [(0, .str x), (4, k), (5, w)])) := by
  rw [run_def (F := ⟨4, 4, b_Ask___init__⟩) rfl rfl]
  simp [b_Ask___init__, row_init n i x μ h, fput, get_set_self h]
theorem whole_make (n : Nat) (lo hi : Int) (μ : Store) : makeS P (run P (n + 1)) 2 true [.int lo, .int hi] μ = .ok (.ins 2 [(1, .int lo), (2, .int hi)]) μ :=
  make_frz P μ _ (in_2) (by rw [kind_init n μ.length lo hi _ (by simp)]; simp) (by simp)
theorem ask_make (n : Nat) (x : Str) (k w : D) (μ : Store) (hk : k.lt μ.length = true) (hw : w.lt μ.length = true) : makeS P (run P (n + 2)) 7 true [.str x, k, w] μ = .ok (.ins 7 [(0, .str x), (4, k), (5, w)]) μ :=
  make_frz P μ _ (in_7) (by rw [ask_init n μ.length x k w _ (by simp)]; simp) (by simp [hk, hw])
theorem sht_init (n i : Nat) (x : Str) (rs : List D) (μ : Store) (h : μ[i]? = some (.ins 9 [])) : run P (n + 1) 35 [.cell i, .str x, .non, .lst rs, .lst []] μ = .ok .non (μ.set i (.ins 9 [(0, .str x), (8, .non), (9, .lst rs), (10, .lst [])])) := by
  rw [run_def (F := ⟨5, 5, b_Sheet___init__⟩) rfl rfl]
  simp [b_Sheet___init__, h, fput, get_set_self h, biS]
theorem sht_make (n : Nat) (x : Str) (rs : List D) (μ : Store) (hr : D.lts μ.length rs = true) : makeS P (run P (n + 1)) 9 true [.str x, .non, .lst rs, .lst []] μ = .ok (.ins 9 [(0, .str x), (8, .non), (9, .lst rs), (10, .lst [])]) μ :=
  make_frz P μ _ (in_9) (by rw [sht_init n μ.length x rs _ (by simp)]; simp) (by simp [hr])
theorem pap_init (n i : Nat) (ss : List D) (μ : Store) (h : μ[i]? = some (.ins 10 [])) : run P (n + 1) 36 [.cell i, .str "paper", .lst ss, .lst []] μ = .ok .non (μ.set i (.ins 10 [(0, .str "paper"), (11, .lst ss), (12, .lst [])])) := by
  rw [run_def (F := ⟨4, 4, b_Paper___init__⟩) rfl rfl]
  simp [b_Paper___init__, h, fput, get_set_self h, biS]
theorem pap_make (n : Nat) (ss : List D) (μ : Store) (hr : D.lts μ.length ss = true) : makeS P (run P (n + 1)) 10 true [.str "paper", .lst ss, .lst []] μ = .ok (.ins 10 [(0, .str "paper"), (11, .lst ss), (12, .lst [])]) μ :=
  make_frz P μ _ (in_10) (by rw [pap_init n μ.length ss _ (by simp)]; simp) (by simp [hr])
end K71

set_option linter.all false
set_option maxRecDepth 100000
namespace K71
open PySem L2 Co Tx
/-! ### dicts by the rows' names -/
def putR (f : Row → D) (rs : List Row) (kv : List (D × D)) : List (D × D) := rs.foldl (fun kv r => kput kv (.str r.nm) (f r)) kv
theorem putR_len (f : Row → D) : ∀ (rs : List Row) (kv : List (D × D)), (putR f rs kv).length ≤ kv.length + rs.length
  | [], kv => Nat.le_refl _
  | r :: rs, kv => by
    have := putR_len f rs (kput kv (.str r.nm) (f r))
    have := kput_len kv (.str r.nm) (f r)
    show (putR f rs (kput kv (.str r.nm) (f r))).length ≤ _
    simp only [List.length_cons]
    omega
theorem putR_lt {n : Nat} (f : Row → D) (hf : ∀ r, (f r).lt n = true) : ∀ (rs : List Row) (kv : List (D × D)), D.ltp n kv = true → D.ltp n (putR f rs kv) = true
  | [], kv, h => h
  | r :: rs, kv, h => putR_lt f hf rs _ (kput_lt h (by simp) (hf r))
theorem putR_app (f : Row → D) (a b : List Row) (kv : List (D × D)) : putR f (a ++ b) kv = putR f b (putR f a kv) := by simp [putR]
theorem putR_take (f : Row → D) (rs : List Row) (j : Nat) (h : j < rs.length) (kv : List (D × D)) : putR f (rs.take (j + 1)) kv = kput (putR f (rs.take j) kv) (.str rs[j].nm) (f rs[j]) := by
  rw [List.take_succ_eq_append_getElem h, putR_app]
  rfl
def kIn : CS := match b_kinds_of with
  | .seq _ (.seq (.for _ _ _ (.seq _ (.for _ _ _ b _)) _) _) => b
  | _ => .skip
def kOut : CS := match b_kinds_of with
  | .seq _ (.seq (.for _ _ _ b _) _) => b
  | _ => .skip
theorem kin_loop (n : Nat) (rs : List Row) (kv : List (D × D)) (μ0 : Store) (e0 e2 : Option D) (hl : kv.length + rs.length ≤ 1000) :
    forS (evS P (run P n) kIn) (.nm 3) .seq [.lst (rs.map askD)] [3] [e0, some (.cell μ0.length), e2, none] (μ0 ++ [.dic false kv]) = .ok (.nx, [e0, some (.cell μ0.length), e2, none]) (μ0 ++ [.dic false (putR kindD rs kv)]) := by
  have h := forS_fn (body := evS P (run P n) kIn) (tg := .nm 3) (clr := [3]) (k := .seq) (ds := [.lst (rs.map askD)]) (μ := μ0 ++ [.dic false kv]) (env := [e0, some (.cell μ0.length), e2, none])
    (fun j => ([e0, some (.cell μ0.length), e2, none], μ0 ++ [.dic false (putR kindD (rs.take j) kv)])) (it_lst _ _) (by simp [putR])
    (fun j hj => stay_lst _ _ _) (fun j hj => by
      have hj' : j < rs.length := by simpa using hj
      have hz : sz ((putR kindD (rs.take j) kv).length + 1) = true := sz_of (by have := putR_len kindD (rs.take j) kv; simp at this; omega)
      have hi : isiS P.sub (μ0 ++ [.dic false (putR kindD (rs.take j) kv)]) (askD rs[j]) [.own 7] = some true := rfl
      refine ⟨[e0, some (.cell μ0.length), e2, some (askD rs[j])], [e0, some (.cell μ0.length), e2, some (askD rs[j])], μ0 ++ [.dic false (putR kindD (rs.take (j + 1)) kv)], by simp, ?_, ?_⟩
      · simp only [kIn, b_kinds_of]
        simp [hi, putR_take kindD rs j hj', hz]
        simp [askD, fget, hz]
      · rw [tEnd_len (by simp)]
        simp)
  simpa using h
def allR (ss : List Sh) : List Row := (ss.map Sh.rows).flatten
theorem allR_take (ss : List Sh) (j : Nat) (h : j < ss.length) : allR (ss.take (j + 1)) = allR (ss.take j) ++ ss[j].rows := by
  unfold allR
  rw [List.take_succ_eq_append_getElem h, List.map_append, List.flatten_append, List.map_cons, List.map_nil, List.flatten_cons, List.flatten_nil, List.append_nil]
theorem allR_len_take (ss : List Sh) (j : Nat) : (allR (ss.take j)).length ≤ (allR ss).length := by
  have e : allR ss = allR (ss.take j) ++ allR (ss.drop j) := by
    unfold allR
    rw [← List.flatten_append, ← List.map_append, List.take_append_drop]
  rw [e, List.length_append]
  omega
theorem kout_loop (n : Nat) (ss : List Sh) (μ0 : Store) (e0 : Option D) (hl : (allR ss).length ≤ 500) :
    forS (evS P (run P n) kOut) (.nm 2) .seq [.lst (ss.map shtD)] [2, 3] [e0, some (.cell μ0.length), none, none] (μ0 ++ [.dic false []]) = .ok (.nx, [e0, some (.cell μ0.length), none, none]) (μ0 ++ [.dic false (putR kindD (allR ss) [])]) := by
  have h := forS_fn (body := evS P (run P n) kOut) (tg := .nm 2) (clr := [2, 3]) (k := .seq) (ds := [.lst (ss.map shtD)]) (μ := μ0 ++ [.dic false []]) (env := [e0, some (.cell μ0.length), none, none])
    (fun j => ([e0, some (.cell μ0.length), none, none], μ0 ++ [.dic false (putR kindD (allR (ss.take j)) [])])) (it_lst _ _) (by simp [putR, allR])
    (fun j hj => stay_lst _ _ _) (fun j hj => by
      have hj' : j < ss.length := by simpa using hj
      have hlen := allR_len_take ss (j + 1)
      rw [allR_take ss j hj', List.length_append] at hlen
      have hk := kin_loop n ss[j].rows (putR kindD (allR (ss.take j)) []) μ0 e0 (some (shtD ss[j])) (by have := putR_len kindD (allR (ss.take j)) []; simp at this; omega)
      simp only [kIn, b_kinds_of] at hk
      refine ⟨[e0, some (.cell μ0.length), some (shtD ss[j]), none], [e0, some (.cell μ0.length), some (shtD ss[j]), none], μ0 ++ [.dic false (putR kindD (allR (ss.take (j + 1))) [])], by simp, ?_, ?_⟩
      · simp only [kOut, b_kinds_of]
        rw [allR_take ss j hj', putR_app]
        simp only [shtD] at hk
        simp [shtD, fget, hk]
      · rw [tEnd_len (by simp)]
        simp)
  simpa using h
theorem kinds_run (n : Nat) (ss : List Sh) (μ : Store) (hl : (allR ss).length ≤ 500) : run P (n + 1) 37 [papD ss] μ = .ok (.dic false (putR kindD (allR ss) [])) μ := by
  rw [run_def (F := ⟨1, 4, b_kinds_of⟩) rfl rfl]
  have h := kout_loop n ss μ (some (papD ss)) hl
  simp only [kOut, b_kinds_of, papD] at h
  simp [b_kinds_of, papD, fget, h]
  exact leave_new _ _ (by simp; exact putR_lt _ (fun r => by simp [kindD]) _ _ (by simp))
end K71

set_option linter.all false
set_option maxRecDepth 100000
namespace K71
open PySem L2 Co Tx
/-! ### the maker -/
def hIn : CS := match b_Maker___init__ with
  | .seq _ (.seq _ (.seq _ (.seq _ (.seq (.for _ _ _ (.seq _ (.for _ _ _ b _)) _) _)))) => b
  | _ => .skip
def hOut : CS := match b_Maker___init__ with
  | .seq _ (.seq _ (.seq _ (.seq _ (.seq (.for _ _ _ b _) _)))) => b
  | _ => .skip
def nonR (_ : Row) : D := .non
def mk0 (ss : List Sh) (m : Nat) : List (Nat × D) := [(17, papD ss), (18, .dic false (putR kindD (allR ss) [])), (12, .dic false []), (19, .cell m)]
theorem hin_loop (n : Nat) (ss : List Sh) (s : Sh) (kv : List (D × D)) (μ0 : Store) (e1 : Option D) (hl : kv.length + s.rows.length ≤ 1000) :
    forS (evS P (run P n) hIn) (.nm 3) .seq [.lst (s.rows.map askD)] [3] [some (.cell μ0.length), e1, some (shtD s), none] (μ0 ++ [.ins 16 (mk0 ss (μ0.length + 1)), .dic false kv]) =
      .ok (.nx, [some (.cell μ0.length), e1, some (shtD s), none]) (μ0 ++ [.ins 16 (mk0 ss (μ0.length + 1)), .dic false (putR nonR s.rows kv)]) := by
  have h := forS_fn (body := evS P (run P n) hIn) (tg := .nm 3) (clr := [3]) (k := .seq) (ds := [.lst (s.rows.map askD)]) (μ := μ0 ++ [.ins 16 (mk0 ss (μ0.length + 1)), .dic false kv]) (env := [some (.cell μ0.length), e1, some (shtD s), none])
    (fun j => ([some (.cell μ0.length), e1, some (shtD s), none], μ0 ++ [.ins 16 (mk0 ss (μ0.length + 1)), .dic false (putR nonR (s.rows.take j) kv)])) (it_lst _ _) (by simp [putR])
    (fun j hj => stay_lst _ _ _) (fun j hj => by
      have hj' : j < s.rows.length := by simpa using hj
      have hz : sz ((putR nonR (s.rows.take j) kv).length + 1) = true := sz_of (by have := putR_len nonR (s.rows.take j) kv; simp at this; omega)
      refine ⟨[some (.cell μ0.length), e1, some (shtD s), some (askD s.rows[j])], [some (.cell μ0.length), e1, some (shtD s), some (askD s.rows[j])], μ0 ++ [.ins 16 (mk0 ss (μ0.length + 1)), .dic false (putR nonR (s.rows.take (j + 1)) kv)], by simp, ?_, ?_⟩
      · simp only [hIn, b_Maker___init__]
        rw [putR_take nonR s.rows j hj']
        simp [askD, shtD, mk0, fget, hz, nonR]
      · rw [tEnd_len (by simp)]
        simp)
  simpa using h
theorem hout_loop (n : Nat) (ss : List Sh) (μ0 : Store) (hl : (allR ss).length ≤ 500) :
    forS (evS P (run P n) hOut) (.nm 2) .seq [.lst (ss.map shtD)] [2, 3] [some (.cell μ0.length), some (papD ss), none, none] (μ0 ++ [.ins 16 (mk0 ss (μ0.length + 1)), .dic false []]) =
      .ok (.nx, [some (.cell μ0.length), some (papD ss), none, none]) (μ0 ++ [.ins 16 (mk0 ss (μ0.length + 1)), .dic false (putR nonR (allR ss) [])]) := by
  have h := forS_fn (body := evS P (run P n) hOut) (tg := .nm 2) (clr := [2, 3]) (k := .seq) (ds := [.lst (ss.map shtD)]) (μ := μ0 ++ [.ins 16 (mk0 ss (μ0.length + 1)), .dic false []]) (env := [some (.cell μ0.length), some (papD ss), none, none])
    (fun j => ([some (.cell μ0.length), some (papD ss), none, none], μ0 ++ [.ins 16 (mk0 ss (μ0.length + 1)), .dic false (putR nonR (allR (ss.take j)) [])])) (it_lst _ _) (by simp [putR, allR])
    (fun j hj => stay_lst _ _ _) (fun j hj => by
      have hj' : j < ss.length := by simpa using hj
      have hlen := allR_len_take ss (j + 1)
      rw [allR_take ss j hj', List.length_append] at hlen
      have hk := hin_loop n ss ss[j] (putR nonR (allR (ss.take j)) []) μ0 (some (papD ss)) (by have := putR_len nonR (allR (ss.take j)) []; simp at this; omega)
      simp only [hIn, b_Maker___init__] at hk
      refine ⟨[some (.cell μ0.length), some (papD ss), some (shtD ss[j]), none], [some (.cell μ0.length), some (papD ss), some (shtD ss[j]), none], μ0 ++ [.ins 16 (mk0 ss (μ0.length + 1)), .dic false (putR nonR (allR (ss.take (j + 1))) [])], by simp, ?_, ?_⟩
      · simp only [hOut, b_Maker___init__]
        rw [allR_take ss j hj', putR_app]
        have e : fget [(0, D.str ss[j].nm), (8, .non), (9, .lst (ss[j].rows.map askD)), (10, .lst [])] 9 = some (.lst (ss[j].rows.map askD)) := rfl
        simp only [shtD] at hk
        simp [shtD, e, hk]
      · rw [tEnd_len (by simp)]
        simp)
  simpa using h
/-- the maker's fields -/
def mkF (ss : List Sh) (m : Nat) : List (Nat × D) := mk0 ss m ++ [(20, .cell (m + 1)), (21, .cell (m + 2))]
theorem maker_init (n : Nat) (ss : List Sh) (μ0 : Store) (hl : (allR ss).length ≤ 500) : run P (n + 2) 52 [.cell μ0.length, papD ss] (μ0 ++ [.ins 16 []]) =
    .ok .non (μ0 ++ [.ins 16 (mkF ss (μ0.length + 1)), .dic false (putR nonR (allR ss) []), .lst [], .dic false []]) := by
  rw [run_def (F := ⟨2, 4, b_Maker___init__⟩) rfl rfl]
  have hk := kinds_run n ss (μ0 ++ [.ins 16 [(17, papD ss)]]) hl
  have h := hout_loop (n + 1) ss μ0 hl
  simp only [hOut, b_Maker___init__] at h
  have ep : papD ss = .ins 10 [(0, .str "paper"), (11, .lst (ss.map shtD)), (12, .lst [])] := rfl
  have b1 : biS (μ0 ++ [.ins 16 [(17, papD ss), (18, .dic false (putR kindD (allR ss) []))]]) (.dict true) [.lst []] = .ok (.dic false []) (μ0 ++ [.ins 16 [(17, papD ss), (18, .dic false (putR kindD (allR ss) []))]]) := rfl
  have ip : ∀ μ, insOf μ (papD ss) = some (10, [(0, .str "paper"), (11, .lst (ss.map shtD)), (12, .lst [])]) := fun _ => rfl
  simp only [mk0] at h
  simp [b_Maker___init__, fput, hk, ip, fget, b1, h]
  rw [leave_stay]
  · simp [mkF, mk0]
  · simp [keeps_cons]
end K71

set_option linter.all false
set_option maxRecDepth 100000
namespace K71
open PySem L2 Co Tx
def numS (i : Int) : Str := toString i
def toldS (r : Row) : Str := ("whole " : Str) ++ numS r.lo ++ " " ++ numS r.hi
/-- bounds that are kept -/
def RowOk (r : Row) : Prop := -(10 ^ 18) ≤ r.lo ∧ r.lo ≤ r.hi ∧ r.hi < 10 ^ 18 + 10 ^ 12
theorem log_lt {i : Int} (h1 : -(10 ^ 20) ≤ i) (h2 : i ≤ 10 ^ 20) : i.natAbs.log2 < 1920 := by
  have h : i.natAbs < 2 ^ 512 := by omega
  have := PySem.Flt.log2_lt_of (by decide) h
  omega
theorem str_run (μ : Store) {i : Int} (h1 : -(10 ^ 20) ≤ i) (h2 : i ≤ 10 ^ 20) : biS μ .str [.int i] = .ok (.str (numS i)) μ := if_pos (decide_eq_true (log_lt h1 h2))
theorem numS_tl (i : Int) : TL.tl (numS i) = if i < 0 then 45 :: TL.numL i.natAbs else TL.numL i.natAbs := by
  cases i with
  | ofNat m =>
    rw [if_neg (by simp)]
    exact TL.tl_num m
  | negSucc m =>
    rw [if_pos (Int.negSucc_lt_zero m)]
    have h := TL.tl_num (m + 1)
    rw [TL.tl_ofString] at h
    have e : numS (Int.negSucc m) = Str.ofString ("-" ++ toString ((m + 1 : Nat) : Int)) := rfl
    rw [e, TL.tl_ofString, String.toList_append, List.map_append, h]
    rfl
theorem numL_len60 {n : Nat} (h : n < 10 ^ 59) : (TL.numL n).length ≤ 59 := TL.numL_len (by decide) h
theorem numS_len {i : Int} (h1 : -(10 ^ 20) ≤ i) (h2 : i ≤ 10 ^ 20) : (numS i).length ≤ 60 := by
  have h : i.natAbs < 10 ^ 59 := by omega
  have := numL_len60 h
  rw [TL.len_tl, numS_tl]
  split
  · simp; omega
  · omega
theorem strK_num (i : Int) : strK (numS i) := strK_of _
/-! ### the kind as written -/
theorem shown_run (n : Nat) (lo hi : Int) (μ : Store) {i : Int} (h1 : -(10 ^ 20) ≤ i) (h2 : i ≤ 10 ^ 20) : run P (n + 1) 13 [.ins 2 [(1, .int lo), (2, .int hi)], .int i] μ = .ok (.str (numS i)) μ := by
  rw [run_def (F := ⟨2, 2, b_Whole_shown⟩) rfl rfl]
  simp [b_Whole_shown, str_run μ h1 h2]
theorem told_run (n : Nat) (r : Row) (μ : Store) (h : RowOk r) : run P (n + 2) 15 [kindD r] μ = .ok (.str (toldS r)) μ := by
  obtain ⟨h1, h2, h3⟩ := h
  rw [run_def (F := ⟨1, 1, b_Whole_told⟩) rfl rfl]
  have s1 := shown_run n r.lo r.hi μ (i := r.lo) (by omega) (by omega)
  have s2 := shown_run n r.lo r.hi μ (i := r.hi) (by omega) (by omega)
  have l1 := numS_len (i := r.lo) (by omega) (by omega)
  have l2 := numS_len (i := r.hi) (by omega) (by omega)
  have w6 : ("whole " : Str).length = 6 := by decide +kernel
  have w1 : (" " : Str).length = 1 := by decide +kernel
  have z1 : sz (("whole " : Str).length + (numS r.lo).length) = true := sz_of (by omega)
  have z2 : sz ((("whole " : Str) ++ numS r.lo).length + (" " : Str).length) = true := sz_of (by rw [len_app]; omega)
  have z3 : sz ((("whole " : Str) ++ numS r.lo ++ " ").length + (numS r.hi).length) = true := sz_of (by rw [len_app, len_app]; omega)
  simp [b_Whole_told, kindD, fget, s1, s2, binS_adds _ _ _ z1, binS_adds _ _ _ z2, binS_adds _ _ _ z3, toldS]
/-! ### the maker's store -/
def MS (μ0 : Store) (ss : List Sh) (made : List D) (st : List (D × D)) (t : Store) : Store :=
  μ0 ++ .ins 16 (mkF ss (μ0.length + 1)) :: .dic false (putR nonR (allR ss) []) :: .lst made :: .dic false st :: t
theorem put_run (n : Nat) (μ0 : Store) (ss : List Sh) (made : List D) (st : List (D × D)) (t : Store) (d : D) (hm : made.length ≤ 1000) : run P (n + 1) 53 [.cell μ0.length, d] (MS μ0 ss made st t) = .ok (.int made.length) (MS μ0 ss (made ++ [d]) st t) := by
  rw [run_def (F := ⟨2, 2, b_Maker_put⟩) rfl rfl]
  have hz : sz (made.length + 1) = true := sz_of (by omega)
  have e20 : fget (mkF ss (μ0.length + 1)) 20 = some (.cell (μ0.length + 2)) := rfl
  simp [b_Maker_put, MS, e20, hz]
  exact leave_len (by simp)
end K71

set_option linter.all false
set_option maxRecDepth 100000
namespace K71
open PySem L2 Co Tx
/-! ### the pages of a sheet's rows -/
def pgD (r : Row) (a : Nat) : D := .tup [.str "ask", .str r.nm, .str (toldS r), .non, .int a]
def pagesOf : Nat → List Row → List D
  | _, [] => []
  | a, r :: rs => pgD r a :: pagesOf (a + 1) rs
theorem pagesOf_app : ∀ (x y : List Row) (a : Nat), pagesOf a (x ++ y) = pagesOf a x ++ pagesOf (a + x.length) y
  | [], y, a => rfl
  | r :: x, y, a => by
    show pgD r a :: pagesOf (a + 1) (x ++ y) = _
    rw [pagesOf_app x y (a + 1), show a + 1 + x.length = a + (r :: x).length by simp; omega]
    rfl
theorem pagesOf_len : ∀ (x : List Row) (a : Nat), (pagesOf a x).length = x.length
  | [], _ => rfl
  | r :: x, a => by
    show (pagesOf (a + 1) x).length + 1 = _
    rw [pagesOf_len x]
    rfl
def rIn : CS := match b_Maker_row_pages with
  | .seq (.for _ _ _ b _) _ => b
  | _ => .skip
theorem row_step (n a : Nat) (μ0 : Store) (ss : List Sh) (made : List D) (st : List (D × D)) (t : Store) (s : Sh) (r : Row) (hr : RowOk r) (hm : made.length = a + 1) (ha : a ≤ 900) :
    evS P (run P (n + 2)) rIn [some (.cell μ0.length), some (shtD s), some (.int a), some (askD r), none] (MS μ0 ss made st t) =
      .ok (.nx, [some (.cell μ0.length), some (shtD s), some (.int ((a + 1 : Nat) : Int)), some (askD r), none]) (MS μ0 ss (made ++ [pgD r a]) st t) := by
  have ht := told_run n r (MS μ0 ss made st t) hr
  have hp := put_run (n + 1) μ0 ss made st t (pgD r a) (by omega)
  have hi : ∀ μ, isiS P.sub μ (askD r) [.own 8] = some false := fun _ => rfl
  have i1 : ∀ μ, insOf μ (askD r) = some (7, [(0, .str r.nm), (4, kindD r), (5, .non)]) := fun _ => rfl
  have i2 : ∀ μ, insOf μ (shtD s) = some (9, [(0, .str s.nm), (8, .non), (9, .lst (s.rows.map askD)), (10, .lst [])]) := fun _ => rfl
  have m1 : ∀ μ, methOf P μ 8 (kindD r) = some 15 := fun _ => rfl
  have m2 : methOf P (MS μ0 ss made st t) 4 (.cell μ0.length) = some 53 := by simp [MS]
  simp only [rIn, b_Maker_row_pages]
  rw [hm] at hp
  simp only [pgD] at hp
  simp [hi, i1, i2, fget, m1, m2, ht, hp, pgD]
theorem row_loop (n : Nat) (μ0 : Store) (ss : List Sh) (st : List (D × D)) (t : Store) (s : Sh) (rs : List Row) (a : Nat) (made : List D) (hr : ∀ r ∈ rs, RowOk r) (hm : made.length = a + 1) (ha : a + rs.length ≤ 900) :
    forS (evS P (run P (n + 2)) rIn) (.nm 3) .rev [.lst (rs.reverse.map askD)] [3, 4] [some (.cell μ0.length), some (shtD s), some (.int a), none, none] (MS μ0 ss made st t) =
      .ok (.nx, [some (.cell μ0.length), some (shtD s), some (.int ((a + rs.length : Nat) : Int)), none, none]) (MS μ0 ss (made ++ pagesOf a rs) st t) := by
  have h := forS_fn (body := evS P (run P (n + 2)) rIn) (tg := .nm 3) (clr := [3, 4]) (k := .rev) (ds := [.lst (rs.reverse.map askD)]) (μ := MS μ0 ss made st t) (env := [some (.cell μ0.length), some (shtD s), some (.int a), none, none])
    (fun j => ([some (.cell μ0.length), some (shtD s), some (.int ((a + j : Nat) : Int)), none, none], MS μ0 ss (made ++ pagesOf a (rs.take j)) st t)) (it_rev _ _) (by simp [pagesOf])
    (fun j hj => stay_rev _ _ _) (fun j hj => by
      have hj' : j < rs.length := by simpa using hj
      have hx : ((rs.reverse.map askD).reverse)[j] = askD rs[j] := by simp
      have hp : pagesOf a (rs.take (j + 1)) = pagesOf a (rs.take j) ++ [pgD rs[j] (a + j)] := by
        rw [List.take_succ_eq_append_getElem hj', pagesOf_app]
        simp [pagesOf, Nat.min_eq_left (Nat.le_of_lt hj')]
      have hs := row_step n (a + j) μ0 ss (made ++ pagesOf a (rs.take j)) st t s rs[j] (hr _ (List.getElem_mem hj')) (by rw [List.length_append, pagesOf_len, hm]; simp; omega) (by omega)
      rw [hx]
      refine ⟨_, _, _, rfl, hs, ?_⟩
      rw [tEnd_len (by simp [MS]), hp, List.append_assoc]
      rfl)
  simpa using h
theorem rows_run (n : Nat) (μ0 : Store) (ss : List Sh) (st : List (D × D)) (t : Store) (s : Sh) (a : Nat) (made : List D) (hr : ∀ r ∈ s.rows, RowOk r) (hm : made.length = a + 1) (ha : a + s.rows.length ≤ 900) :
    run P (n + 3) 57 [.cell μ0.length, shtD s, .int a] (MS μ0 ss made st t) = .ok (.int ((a + s.rows.length : Nat) : Int)) (MS μ0 ss (made ++ pagesOf a s.rows.reverse) st t) := by
  rw [run_def (F := ⟨3, 5, b_Maker_row_pages⟩) rfl rfl]
  have h := row_loop n μ0 ss st t s s.rows.reverse a made (fun r hr' => hr r (by simpa using hr')) hm (by simpa using ha)
  simp only [rIn, b_Maker_row_pages, List.reverse_reverse] at h
  have i2 : ∀ μ, insOf μ (shtD s) = some (9, [(0, .str s.nm), (8, .non), (9, .lst (s.rows.map askD)), (10, .lst [])]) := fun _ => rfl
  simp [b_Maker_row_pages, i2, fget, h]
  exact leave_len (by simp [MS])
end K71

set_option linter.all false
set_option maxRecDepth 100000
namespace K71
open PySem L2 Co Tx
def endD : D := .tup [.str "end"]
/-- how many rows stand in the last k sheets -/
def cntK (ss : List Sh) (k : Nat) : Nat := (allR (ss.drop (ss.length - k))).length
def madeK (ss : List Sh) (k : Nat) : List D := endD :: pagesOf 0 (allR (ss.drop (ss.length - k))).reverse
def stK (ss : List Sh) : Nat → List (D × D)
  | 0 => kput [] (.int (ss.length : Nat)) (.int 0)
  | k + 1 => kput (stK ss k) (.int ((ss.length - (k + 1) : Nat) : Int)) (.int (cntK ss (k + 1) : Nat))
theorem stK_len (ss : List Sh) : ∀ k, (stK ss k).length ≤ k + 1
  | 0 => kput_len _ _ _
  | k + 1 => Nat.le_trans (kput_len _ _ _) (Nat.succ_le_succ (stK_len ss k))
theorem stK_lt (ss : List Sh) (n : Nat) : ∀ k, D.ltp n (stK ss k) = true
  | 0 => kput_lt (by simp) (by simp) (by simp)
  | k + 1 => kput_lt (stK_lt ss n k) (by simp) (by simp)
theorem pages_lt (n : Nat) : ∀ (x : List Row) (a : Nat), D.lts n (pagesOf a x) = true
  | [], _ => rfl
  | r :: x, a => by
    show D.lts n (pgD r a :: pagesOf (a + 1) x) = true
    simp [pgD, pages_lt n x]
theorem madeK_lt (ss : List Sh) (n k : Nat) : D.lts n (madeK ss k) = true := by simp [madeK, endD, pages_lt]
theorem cnt_succ (ss : List Sh) (k : Nat) (hk : k < ss.length) : cntK ss (k + 1) = cntK ss k + (ss[ss.length - (k + 1)]'(by omega)).rows.length := by
  unfold cntK
  rw [List.drop_eq_getElem_cons (by omega : ss.length - (k + 1) < ss.length), show ss.length - (k + 1) + 1 = ss.length - k by omega]
  simp [allR]
  omega
theorem made_succ (ss : List Sh) (k : Nat) (hk : k < ss.length) : madeK ss (k + 1) = madeK ss k ++ pagesOf (cntK ss k) (ss[ss.length - (k + 1)]'(by omega)).rows.reverse := by
  unfold madeK cntK
  rw [List.drop_eq_getElem_cons (by omega : ss.length - (k + 1) < ss.length), show ss.length - (k + 1) + 1 = ss.length - k by omega]
  have e : allR (ss[ss.length - (k + 1)] :: ss.drop (ss.length - k)) = (ss[ss.length - (k + 1)]).rows ++ allR (ss.drop (ss.length - k)) := rfl
  rw [e, List.reverse_append, pagesOf_app]
  simp
theorem made_len (ss : List Sh) (k : Nat) : (madeK ss k).length = cntK ss k + 1 := by simp [madeK, cntK, pagesOf_len]
theorem cnt_zero (ss : List Sh) : cntK ss 0 = 0 := by simp [cntK, allR]
theorem cnt_le (ss : List Sh) (k : Nat) : cntK ss k ≤ (allR ss).length := by
  have e : allR ss = allR (ss.take (ss.length - k)) ++ allR (ss.drop (ss.length - k)) := by
    unfold allR
    rw [← List.flatten_append, ← List.map_append, List.take_append_drop]
  unfold cntK
  rw [e, List.length_append]
  omega
theorem MS_snoc (μ0 : Store) (ss : List Sh) (made : List D) (st : List (D × D)) (t : Store) (c : Cell) : MS μ0 ss made st (t ++ [c]) = MS μ0 ss made st t ++ [c] := by simp [MS]
theorem MS_keeps (n : Nat) (μ0 : Store) (ss : List Sh) (made made' : List D) (st st' : List (D × D)) (t : Store) (h1 : D.lts n made' = true) (h2 : D.ltp n st' = true) : keeps n (MS μ0 ss made st t) (MS μ0 ss made' st' t) = true := by
  unfold MS
  rw [keeps_pre]
  exact keeps_c0 n (keeps_c0 n (keeps_c1 n h1 (keeps_c1 n h2 (keeps_self n t))))
theorem MS_len (μ0 : Store) (ss : List Sh) (made : List D) (st : List (D × D)) (t : Store) : (MS μ0 ss made st t).length = μ0.length + 4 + t.length := by simp [MS]; omega
@[simp] theorem MS_g0 (μ0 : Store) (ss : List Sh) (made : List D) (st : List (D × D)) (t : Store) : (MS μ0 ss made st t)[μ0.length]? = some (.ins 16 (mkF ss (μ0.length + 1))) := by simp [MS]
@[simp] theorem MS_g2 (μ0 : Store) (ss : List Sh) (made : List D) (st : List (D × D)) (t : Store) : (MS μ0 ss made st t)[μ0.length + 2]? = some (.lst made) := by simp [MS]
@[simp] theorem MS_g3 (μ0 : Store) (ss : List Sh) (made : List D) (st : List (D × D)) (t : Store) : (MS μ0 ss made st t)[μ0.length + 3]? = some (.dic false st) := by simp [MS]
@[simp] theorem MS_s3 (μ0 : Store) (ss : List Sh) (made : List D) (st st' : List (D × D)) (t : Store) : (MS μ0 ss made st t).set (μ0.length + 3) (.dic false st') = MS μ0 ss made st' t := by simp [MS]
@[simp] theorem MS_gl (μ0 : Store) (ss : List Sh) (made made' : List D) (st st' : List (D × D)) (t : Store) (c : Cell) : (MS μ0 ss made st (t ++ [c]))[(MS μ0 ss made' st' t).length]? = some c := by
  rw [MS_snoc, show (MS μ0 ss made' st' t).length = (MS μ0 ss made st t).length by rw [MS_len, MS_len]]
  simp
/-- what starts.. asks -/
def StartOk (ss : List Sh) (n k : Nat) : Prop := ∀ (μ0 t : Store), run P n 60 [.cell μ0.length, .int ((ss.length - k : Nat) : Int)] (MS μ0 ss [] [] t) = .ok (.int (cntK ss k : Nat)) (MS μ0 ss (madeK ss k) (stK ss k) t)
section
variable (ss : List Sh) (hA : (allR ss).length ≤ 500) (hS : ss.length ≤ 100) (hR : ∀ r ∈ allR ss, RowOk r)
theorem i17 (μ : Store) : insOf μ (papD ss) = some (10, [(0, .str "paper"), (11, .lst (ss.map shtD)), (12, .lst [])]) := rfl
theorem start_of (n k : Nat) (hk : k ≤ ss.length) (hS : ss.length ≤ 100) (hb : ∀ (μ0 t : Store), ∃ st, run P n 61 [.cell μ0.length, .int ((ss.length - k : Nat) : Int)] (MS μ0 ss [] [] t) = .ok (.int (cntK ss k : Nat)) (MS μ0 ss (madeK ss k) st t) ∧ stK ss k = kput st (.int ((ss.length - k : Nat) : Int)) (.int (cntK ss k : Nat)) ∧ st.length ≤ k) : StartOk ss (n + 1) k := by
  intro μ0 t
  obtain ⟨st, h1, h2, h3⟩ := hb μ0 t
  rw [run_def (F := ⟨2, 2, b_Maker_sheet_start⟩) rfl rfl]
  have e21 : fget (mkF ss (μ0.length + 1)) 21 = some (.cell (μ0.length + 3)) := rfl
  have hz : sz (st.length + 1) = true := sz_of (by omega)
  have hf : kfind (stK ss k) (.int ((ss.length - k : Nat) : Int)) = some (.int (cntK ss k : Nat)) := by rw [h2, kfind_put, if_pos rfl]
  simp [b_Maker_sheet_start, e21, h1, hz, ← h2, hf]
  exact leave_len (by rw [MS_len, MS_len])
theorem way_run (n k : Nat) (hk : k < ss.length) (hs : StartOk ss n k) (μ0 t : Store) :
    run P (n + 1) 58 [.cell μ0.length, .int ((ss.length - (k + 1) : Nat) : Int)] (MS μ0 ss [] [] t) = .ok (.int (cntK ss k : Nat)) (MS μ0 ss (madeK ss k) (stK ss k) t) := by
  have hs := hs μ0 (t ++ [.lst []])
  rw [run_def (F := ⟨2, 6, b_Maker_way_pages⟩) rfl rfl]
  have e17 : fget (mkF ss (μ0.length + 1)) 17 = some (papD ss) := rfl
  have i17 : ∀ μ, insOf μ (papD ss) = some (10, [(0, .str "paper"), (11, .lst (ss.map shtD)), (12, .lst [])]) := fun _ => rfl
  have ek : (((ss.length - (k + 1) : Nat) : Int) + 1) = ((ss.length - k : Nat) : Int) := by omega
  have ix : atI (ss.map shtD) ((ss.length - (k + 1) : Nat) : Int) = some (shtD (ss[ss.length - (k + 1)]'(by omega))) := by
    rw [atI_nat', List.getElem?_map, List.getElem?_eq_getElem (by omega)]
    rfl
  have i2 : ∀ (s : Sh) μ, insOf μ (shtD s) = some (9, [(0, .str s.nm), (8, .non), (9, .lst (s.rows.map askD)), (10, .lst [])]) := fun _ _ => rfl
  simp [b_Maker_way_pages, e17, i17, fget, ix, i2, ← MS_snoc, ek, hs, forS_revc _ _ _ _ _ _ (MS_gl μ0 ss (madeK ss k) [] (stK ss k) [] t (.lst []))]
  rw [MS_snoc]
  exact leave_drop (by rw [MS_len, MS_len]) (MS_keeps _ _ _ _ _ _ _ _ (madeK_lt _ _ _) (stK_lt _ _ _)) (by simp)
theorem begin_run (n k : Nat) (hk : k < ss.length) (hA : (allR ss).length ≤ 500) (hR : ∀ r ∈ allR ss, RowOk r) (hs : StartOk ss (n + 2) k) (μ0 t : Store) :
    run P (n + 4) 61 [.cell μ0.length, .int ((ss.length - (k + 1) : Nat) : Int)] (MS μ0 ss [] [] t) = .ok (.int (cntK ss (k + 1) : Nat)) (MS μ0 ss (madeK ss (k + 1)) (stK ss k) t) := by
  have hw := way_run ss (n + 2) k hk hs μ0 t
  have hlt : ss.length - (k + 1) < ss.length := by omega
  have hr := rows_run n μ0 ss (stK ss k) t (ss[ss.length - (k + 1)]) (cntK ss k) (madeK ss k) (fun r h => hR r (by
    unfold allR
    rw [List.mem_flatten]
    exact ⟨_, List.mem_map_of_mem (List.getElem_mem hlt), h⟩)) (made_len ss k) (by have := cnt_le ss (k + 1); rw [cnt_succ ss k hk] at this; omega)
  rw [← cnt_succ ss k hk, ← made_succ ss k hk] at hr
  rw [run_def (F := ⟨2, 6, b_Maker_begin⟩) rfl rfl]
  have e17 : fget (mkF ss (μ0.length + 1)) 17 = some (papD ss) := rfl
  have i17 : ∀ μ, insOf μ (papD ss) = some (10, [(0, .str "paper"), (11, .lst (ss.map shtD)), (12, .lst [])]) := fun _ => rfl
  have ix : atI (ss.map shtD) ((ss.length - (k + 1) : Nat) : Int) = some (shtD (ss[ss.length - (k + 1)]'(by omega))) := by
    rw [atI_nat', List.getElem?_map, List.getElem?_eq_getElem (by omega)]
    rfl
  have i2 : ∀ (s : Sh) μ, insOf μ (shtD s) = some (9, [(0, .str s.nm), (8, .non), (9, .lst (s.rows.map askD)), (10, .lst [])]) := fun _ _ => rfl
  have ne : ¬ (((ss.length - (k + 1) : Nat) : Int) = (ss.length : Int)) := by omega
  simp [b_Maker_begin, e17, i17, fget, ix, i2, ne, hw, hr]
  exact leave_len (by rw [MS_len, MS_len])
theorem begin_end (n : Nat) (μ0 t : Store) : run P (n + 2) 61 [.cell μ0.length, .int (ss.length : Nat)] (MS μ0 ss [] [] t) = .ok (.int 0) (MS μ0 ss [endD] [] t) := by
  rw [run_def (F := ⟨2, 6, b_Maker_begin⟩) rfl rfl]
  have e17 : fget (mkF ss (μ0.length + 1)) 17 = some (papD ss) := rfl
  have i17 : ∀ μ, insOf μ (papD ss) = some (10, [(0, .str "paper"), (11, .lst (ss.map shtD)), (12, .lst [])]) := fun _ => rfl
  have hp := put_run n μ0 ss [] [] t endD (by simp)
  simp only [endD] at hp
  simp [b_Maker_begin, e17, i17, fget, hp, endD]
  exact leave_len (by rw [MS_len, MS_len])
theorem start_all (hS : ss.length ≤ 100) (hA : (allR ss).length ≤ 500) (hR : ∀ r ∈ allR ss, RowOk r) : ∀ k, k ≤ ss.length → ∀ n, StartOk ss (n + 3 * k + 3) k
  | 0, _, n => by
    refine start_of ss (n + 2) 0 (Nat.zero_le _) hS fun μ0 t => ⟨[], ?_, ?_, Nat.le_refl _⟩
    · have h := begin_end ss n μ0 t
      rw [Nat.sub_zero, cnt_zero, h]
      simp [madeK, allR, pagesOf]
    · rw [cnt_zero]
      rfl
  | k + 1, hk, n => by
    have ih := start_all hS hA hR k (by omega) n
    refine start_of ss (n + 3 * (k + 1) + 2) (k + 1) hk hS fun μ0 t => ⟨stK ss k, ?_, rfl, stK_len ss k⟩
    have h := begin_run ss (n + 3 * k + 1) k (by omega) hA hR ih μ0 t
    exact h
end
end K71

set_option linter.all false
set_option maxRecDepth 100000
namespace K71
open PySem L2 Co Tx
def exI (i N : Int) : Int := if i = N then 0 else if i = 0 then N else i
theorem ex_run (n : Nat) (i N : Int) (μ : Store) : run P (n + 1) 63 [.int i, .int N] μ = .ok (.int (exI i N)) μ := by
  rw [run_def (F := ⟨2, 2, b_exchanged⟩) rfl rfl]
  unfold exI
  by_cases h1 : i = N
  · subst h1
    simp [b_exchanged]
  · by_cases h2 : i = 0
    · subst h2
      simp [b_exchanged, h1]
    · simp [b_exchanged, h1, h2]
theorem targ_ask (n : Nat) (a b c d : D) (μ : Store) : run P (n + 1) 62 [.tup [.str "ask", a, b, c, d]] μ = .ok (.int 1) μ := by
  rw [run_def (F := ⟨1, 1, b_targets_of⟩) rfl rfl]
  have h1 : inS μ (.str "ask") (.lst [.str "held", .str "end"]) = some false := by rfl
  have h2 : inS μ (.str "ask") (.lst [.str "compare", .str "total", .str "more"]) = some false := by rfl
  simp [b_targets_of, h1, h2, atI_zero]
theorem targ_end (n : Nat) (μ : Store) : run P (n + 1) 62 [endD] μ = .ok (.int 0) μ := by
  rw [run_def (F := ⟨1, 1, b_targets_of⟩) rfl rfl]
  have h1 : inS μ (.str "end") (.lst [.str "held", .str "end"]) = some true := by rfl
  simp [b_targets_of, h1, atI_zero, endD]
def turnD (N : Int) (d : D) : D := match d with
  | .tup [a, b, c, e, .int i] => .tup [a, b, c, e, .int (exI i N)]
  | d => d
theorem turn_ask (n : Nat) (x y : Str) (a : Nat) (N : Int) (μ : Store) : run P (n + 2) 64 [.tup [.str "ask", .str x, .str y, .non, .int a], .int N] μ = .ok (.tup [.str "ask", .str x, .str y, .non, .int (exI a N)]) μ := by
  rw [run_def (F := ⟨2, 4, b_turned⟩) rfl rfl]
  have ht := targ_ask n (.str x) (.str y) .non (.int a) μ
  have h1 : slS μ (.tup [.str "ask", .str x, .str y, .non, .int a]) none (some 4) = .ok (.tup [.str "ask", .str x, .str y, .non]) μ := rfl
  have h2 : slS μ (.tup [.str "ask", .str x, .str y, .non, .int a]) (some 4) none = .ok (.tup [.int a]) μ := rfl
  have hl := lcS_map (cond := evE P (run P (n + 1)) (.lit (.bl true))) (elt := evE P (run P (n + 1)) (.call 63 (.acons (.var 3) (.acons (.var 1) .anil)) [])) (tg := .nm 3) (own := [3]) (k := .seq) (ds := [.tup [.int a]]) (xs := [.int a]) (env := [some (.tup [.str "ask", .str x, .str y, .non, .int a]), some (.int N), some (.int 4), none]) (μ := μ) (fun _ => .int (exI a N)) rfl (fun ys => by simp) (by simp)
    (fun x hx => by
      rw [List.mem_singleton] at hx
      subst hx
      refine ⟨_, rfl, fun ys => ⟨rfl, ?_⟩⟩
      have h := ex_run n a N (μ ++ [.lst ys])
      simp [h]) (by simp)
  have h3 : biS μ .tuple [.lst [.int (exI a N)]] = .ok (.tup [.int (exI a N)]) μ := rfl
  have h4 : binS μ .add (.tup [.str "ask", .str x, .str y, .non]) (.tup [.int (exI a N)]) = .ok (.tup [.str "ask", .str x, .str y, .non, .int (exI a N)]) μ := binS_addt _ _ _ (sz_of (by simp))
  simp at hl
  simp [b_turned, ht, h1, h2, hl, h3, h4]
theorem turn_end (n : Nat) (N : Int) (μ : Store) : run P (n + 2) 64 [endD, .int N] μ = .ok endD μ := by
  rw [run_def (F := ⟨2, 4, b_turned⟩) rfl rfl]
  have ht := targ_end n μ
  have h1 : slS μ (.tup [.str "end"]) none (some 1) = .ok (.tup [.str "end"]) μ := rfl
  have h2 : slS μ (.tup [.str "end"]) (some 1) none = .ok (.tup []) μ := rfl
  have hl := lcS_map (cond := evE P (run P (n + 1)) (.lit (.bl true))) (elt := evE P (run P (n + 1)) (.call 63 (.acons (.var 3) (.acons (.var 1) .anil)) [])) (tg := .nm 3) (own := [3]) (k := .seq) (ds := [.tup []]) (xs := []) (env := [some endD, some (.int N), some (.int 1), none]) (μ := μ) (fun _ => .non) rfl (fun ys => by simp) (by simp)
    (fun x hx => by cases hx) (by simp)
  have h3 : biS μ .tuple [.lst []] = .ok (.tup []) μ := rfl
  have h4 : binS μ .add (.tup [.str "end"]) (.tup []) = .ok (.tup [.str "end"]) μ := binS_addt _ _ _ (sz_of (by simp))
  simp [endD] at hl ht
  simp [b_turned, endD, ht, h1, h2, hl, h3, h4]
end K71

set_option linter.all false
set_option maxRecDepth 100000
namespace K71
open PySem L2 Co Tx
theorem mem_pages : ∀ (rs : List Row) (a : Nat) (x : D), x ∈ pagesOf a rs → ∃ r b, x = pgD r b
  | [], _, _, h => by cases h
  | r :: rs, a, x, h => by
    rcases List.mem_cons.mp h with h | h
    · exact ⟨r, a, h⟩
    · exact mem_pages rs (a + 1) x h
theorem turn_mem (n : Nat) (ss : List Sh) (k : Nat) (N : Int) (μ : Store) (x : D) (h : x ∈ madeK ss k) : run P (n + 2) 64 [x, .int N] μ = .ok (turnD N x) μ := by
  rcases List.mem_cons.mp h with h | h
  · subst h
    exact turn_end n N μ
  · obtain ⟨r, b, rfl⟩ := mem_pages _ _ _ h
    exact turn_ask n r.nm (toldS r) b N μ
def madeT (ss : List Sh) : List D := (madeK ss ss.length).map (turnD (allR ss).length)
def pagesL (ss : List Sh) : List D := (List.range ((allR ss).length + 1)).map fun k => (madeT ss).getD (exI (k : Nat) ((allR ss).length : Nat)).toNat .non
theorem all_cnt (ss : List Sh) : cntK ss ss.length = (allR ss).length := by simp [cntK]
theorem madeT_len (ss : List Sh) : (madeT ss).length = (allR ss).length + 1 := by simp [madeT, made_len, all_cnt]
theorem turn_lt (n : Nat) (N : Int) (ss : List Sh) (k : Nat) : D.lts n ((madeK ss k).map (turnD N)) = true := by
  have : ∀ rs a, D.lts n ((pagesOf a rs).map (turnD N)) = true := fun rs => by
    induction rs with
    | nil => intro a; rfl
    | cons r rs ih =>
      intro a
      show D.lts n (turnD N (pgD r a) :: (pagesOf (a + 1) rs).map (turnD N)) = true
      simp [turnD, pgD, ih]
  simp [madeK, turnD, endD, this]
/-- the store behind pages_of -/
def PS (μ0 : Store) (ss : List Sh) : Store := MS μ0 ss (madeK ss ss.length) (stK ss ss.length) [.lst (pagesL ss)]
/-- the store behind the maker -/
def QS (μ0 : Store) (ss : List Sh) : Store := MS μ0 ss (madeK ss ss.length) (stK ss ss.length) []
theorem QS_g2 (μ0 : Store) (ss : List Sh) : (QS μ0 ss)[μ0.length + 2]? = some (.lst (madeK ss ss.length)) := MS_g2 _ _ _ _ _
theorem QS_g0 (μ0 : Store) (ss : List Sh) : (QS μ0 ss)[μ0.length]? = some (.ins 16 (mkF ss (μ0.length + 1))) := MS_g0 _ _ _ _ _
theorem QS_len (μ0 : Store) (ss : List Sh) : (QS μ0 ss).length = μ0.length + 4 := MS_len _ _ _ _ _
theorem PS_eq (μ0 : Store) (ss : List Sh) : PS μ0 ss = QS μ0 ss ++ [.lst (pagesL ss)] := by
  unfold PS QS
  rw [← MS_snoc]
  rfl
theorem pg_make (n : Nat) (ss : List Sh) (μ0 : Store) (hA : (allR ss).length ≤ 500) : makeS P (run P (n + 2)) 16 false [papD ss] μ0 = .ok (.cell μ0.length) (MS μ0 ss [] [] []) := by
  have h := maker_init n ss μ0 hA
  exact make_cell P μ0 _ (in_16) (by rw [h]; rfl)
theorem pg_start (n : Nat) (ss : List Sh) (μ0 : Store) (hS : ss.length ≤ 100) (hA : (allR ss).length ≤ 500) (hR : ∀ r ∈ allR ss, RowOk r) :
    run P (n + 3 * ss.length + 3) 60 [.cell μ0.length, .int 0] (MS μ0 ss [] [] []) = .ok (.int ((allR ss).length : Nat)) (QS μ0 ss) := by
  have h2 := start_all ss hS hA hR ss.length (Nat.le_refl _) n μ0 []
  rw [Nat.sub_self, all_cnt] at h2
  exact h2
theorem pg_turn (n : Nat) (ss : List Sh) (μ0 : Store) (hA : (allR ss).length ≤ 500) (e0 : Option D) :
    lcS (evE P (run P (n + 2)) (.lit (.bl true))) (evE P (run P (n + 2)) (.call 64 (.acons (.var 4) (.acons (.var 2) .anil)) [])) (.nm 4) [4] .seq [.cell (μ0.length + 2)] true
      [some (papD ss), e0, some (.int (allR ss).length), none, none, none] (QS μ0 ss) = .ok (.lst (madeT ss)) (QS μ0 ss) := by
  have g2 := QS_g2 μ0 ss
  refine lcS_map (xs := madeK ss ss.length) (turnD (allR ss).length) (it_cl _ _ g2) (fun ys => stay_cl g2 (get_app_lt g2 _)) (by rw [made_len, all_cnt]; omega) (fun x hx => ?_) (turn_lt _ _ _ _)
  refine ⟨[some (papD ss), e0, some (.int (allR ss).length), none, some x, none], by simp, fun ys => ⟨by simp, ?_⟩⟩
  have h := turn_mem n ss ss.length (allR ss).length (QS μ0 ss ++ [.lst ys]) x hx
  simp [h]
def pgAt (ss : List Sh) (d : D) : D := match d with
  | .int k => (madeT ss).getD (exI k ((allR ss).length : Nat)).toNat .non
  | d => d
theorem pgAt_ok (ss : List Sh) (k : Nat) (hk : k < (allR ss).length + 1) : atI (madeT ss) (exI (k : Nat) ((allR ss).length : Nat)) = some (pgAt ss (.int k)) := by
  have hb : 0 ≤ exI (k : Nat) ((allR ss).length : Nat) ∧ exI (k : Nat) ((allR ss).length : Nat) < ((allR ss).length + 1 : Nat) := by
    unfold exI
    split
    · omega
    · split <;> omega
  have e : exI (k : Nat) ((allR ss).length : Nat) = (((exI (k : Nat) ((allR ss).length : Nat)).toNat : Nat) : Int) := by omega
  have hlt : (exI (k : Nat) ((allR ss).length : Nat)).toNat < (madeT ss).length := by rw [madeT_len]; omega
  rw [e, atI_nat', List.getElem?_eq_getElem hlt]
  simp [pgAt, List.getD, hlt]
theorem pg_list (n : Nat) (ss : List Sh) (μ0 : Store) (hA : (allR ss).length ≤ 500) (e0 e1 : Option D) :
    lcS (evE P (run P (n + 1)) (.lit (.bl true))) (evE P (run P (n + 1)) (.ix (.var 3) (.call 63 (.acons (.var 5) (.acons (.var 2) .anil)) []))) (.nm 5) [5] .rng1 [.int (((allR ss).length + 1 : Nat) : Int)] false
      [e0, e1, some (.int (allR ss).length), some (.lst (madeT ss)), none, none] (QS μ0 ss) = .ok (.cell (μ0.length + 4)) (PS μ0 ss) := by
  have hr' : inR (((allR ss).length + 1 : Nat) : Int) = true := inR_of (by omega) (by omega)
  have hc := lcS_mapC (cond := evE P (run P (n + 1)) (.lit (.bl true))) (elt := evE P (run P (n + 1)) (.ix (.var 3) (.call 63 (.acons (.var 5) (.acons (.var 2) .anil)) []))) (tg := .nm 5) (own := [5]) (k := .rng1) (ds := [.int (((allR ss).length + 1 : Nat) : Int)])
    (env := [e0, e1, some (.int (allR ss).length), some (.lst (madeT ss)), none, none]) (μ := QS μ0 ss) (pgAt ss) (it_rng1 _ _ hr') (fun ys => stay_rng1 _ _ _ hr') (by simp; omega)
    (fun x hx => by
      obtain ⟨k, hk, rfl⟩ := List.mem_map.mp hx
      have hk : k < (allR ss).length + 1 := by simpa using hk
      refine ⟨[e0, e1, some (.int (allR ss).length), some (.lst (madeT ss)), none, some (.int k)], by simp, fun ys => ⟨by simp, ?_⟩⟩
      have h := ex_run n k ((allR ss).length : Nat) (QS μ0 ss ++ [.lst ys])
      have ha := pgAt_ok ss k hk
      simp [h, ha])
  rw [QS_len] at hc
  have e : ((List.range ((((allR ss).length + 1 : Nat) : Int)).toNat).map fun (i : Nat) => D.int (i : Int)).map (pgAt ss) = pagesL ss := by
    rw [Int.toNat_natCast, List.map_map]
    rfl
  rw [e] at hc
  rw [hc, PS_eq]
theorem pages_run (m n : Nat) (ss : List Sh) (μ0 : Store) (hm : m = n + 3 * ss.length) (hS : ss.length ≤ 100) (hA : (allR ss).length ≤ 500) (hR : ∀ r ∈ allR ss, RowOk r) :
    run P (m + 4) 65 [papD ss] μ0 = .ok (.cell (μ0.length + 4)) (PS μ0 ss) := by
  rw [run_def (F := ⟨1, 6, b_pages_of⟩) rfl rfl]
  have h2 := pg_start n ss μ0 hS hA hR
  rw [← hm] at h2
  have h1 : makeS P (run P (m + 3)) 16 false [papD ss] μ0 = .ok (.cell μ0.length) (MS μ0 ss [] [] []) := pg_make (m + 1) ss μ0 hA
  have h3 := pg_turn (m + 1) ss μ0 hA (some (.cell μ0.length))
  have h4 := pg_list (m + 2) ss μ0 hA (some (papD ss)) (some (.cell μ0.length))
  rw [show m + 1 + 2 = m + 3 by omega] at h3
  rw [show m + 2 + 1 = m + 3 by omega] at h4
  have ecast : (((allR ss).length + 1 : Nat) : Int) = ((allR ss).length : Int) + 1 := by simp
  rw [ecast] at h4
  have e20 : fget (mkF ss (μ0.length + 1)) 20 = some (.cell (μ0.length + 2)) := rfl
  have g2 := QS_g2 μ0 ss
  have g0 := QS_g0 μ0 ss
  simp [b_pages_of, h1, h2, g0, e20, walk_cl _ _ g2]
  rw [h3]
  simp [madeT_len]
  rw [h4]
  simp
  exact leave_val (by simp)
end K71

set_option linter.all false
set_option maxRecDepth 100000
namespace K71
open PySem L2 Co Tx
/-! ### where the pages stand -/
def posN (N j : Nat) : Nat := (exI ((N - j : Nat) : Int) (N : Nat)).toNat
theorem posN_int (N j : Nat) : exI ((N - j : Nat) : Int) (N : Nat) = (posN N j : Int) := by
  unfold posN exI
  split
  · rfl
  · split <;> omega
theorem posN_zero (N : Nat) : posN N 0 = 0 := by simp [posN, exI]
theorem posN_lt (N j : Nat) : posN N j < N + 1 := by
  unfold posN exI
  split
  · simp
  · split <;> omega
theorem exI_inv (N j : Nat) : exI ((posN N j : Nat) : Int) (N : Nat) = ((N - j : Nat) : Int) := by
  rw [← posN_int]
  unfold exI
  repeat' split
  all_goals omega
theorem pagesOf_get : ∀ (rs : List Row) (a i : Nat) (h : i < rs.length), (pagesOf a rs)[i]? = some (pgD rs[i] (a + i))
  | r :: rs, a, 0, h => rfl
  | r :: rs, a, i + 1, h => by
    show (pagesOf (a + 1) rs)[i]? = _
    rw [pagesOf_get rs (a + 1) i (by simpa using h), show a + 1 + i = a + (i + 1) by omega]
    rfl
def askPg (r : Row) (k : Nat) : D := .tup [.str "ask", .str r.nm, .str (toldS r), .non, .int (k : Nat)]
theorem pagesL_len (ss : List Sh) : (pagesL ss).length = (allR ss).length + 1 := by simp [pagesL]
theorem pagesL_pos (ss : List Sh) (j : Nat) : (pagesL ss)[posN (allR ss).length j]? = (madeT ss)[(allR ss).length - j]? := by
  have h := posN_lt (allR ss).length j
  unfold pagesL
  rw [List.getElem?_map, List.getElem?_range h, Option.map_some, exI_inv, Int.toNat_natCast, List.getD]
  have h2 : (allR ss).length - j < (madeT ss).length := by rw [madeT_len]; omega
  rw [List.getElem?_eq_getElem h2]
  rfl
theorem madeT_get (ss : List Sh) : madeT ss = (endD :: pagesOf 0 (allR ss).reverse).map (turnD (allR ss).length) := by
  simp [madeT, madeK]
theorem page_ask (ss : List Sh) (j : Nat) (h : j < (allR ss).length) : (pagesL ss)[posN (allR ss).length j]? = some (askPg (allR ss)[j] (posN (allR ss).length (j + 1))) := by
  rw [pagesL_pos, madeT_get, List.getElem?_map, show (allR ss).length - j = ((allR ss).length - (j + 1)) + 1 by omega, List.getElem?_cons_succ, pagesOf_get _ _ _ (by simp; omega)]
  have e : (allR ss).reverse[(allR ss).length - (j + 1)]'(by simp; omega) = (allR ss)[j] := by
    rw [List.getElem_reverse]
    congr 1
    omega
  rw [e, Option.map_some]
  have e2 := posN_int (allR ss).length (j + 1)
  simp only [pgD, turnD, askPg, Nat.zero_add, e2]
theorem page_end (ss : List Sh) : (pagesL ss)[posN (allR ss).length (allR ss).length]? = some endD := by
  rw [pagesL_pos, madeT_get]
  simp [turnD, endD]
end K71

set_option linter.all false
set_option maxRecDepth 100000
namespace K71
open PySem L2 Co Tx
/-! ### what the law is told of the pages -/
def dueD (r : Row) : D := .tup [.str "ask", .str r.nm, .str (toldS r), .non]
def dueL (ss : List Sh) (j : Nat) : List D := ((allR ss).take j).map dueD
theorem dueL_len (ss : List Sh) (j : Nat) (h : j ≤ (allR ss).length) : (dueL ss j).length = j := by simp [dueL, Nat.min_eq_left h]
theorem dueL_succ (ss : List Sh) (j : Nat) (h : j < (allR ss).length) : dueL ss (j + 1) = dueL ss j ++ [dueD (allR ss)[j]] := by
  unfold dueL
  rw [List.take_succ_eq_append_getElem h, List.map_append]
  rfl
theorem dueL_lt (ss : List Sh) (n j : Nat) : D.lts n (dueL ss j) = true := lts_map n _ _ fun x _ => by simp [dueD]
def tCond : CE := match b_L_told with
  | .seq _ (.seq _ (.seq (.while c _ _) _)) => c
  | _ => .lit .non
def tBody : CS := match b_L_told with
  | .seq _ (.seq _ (.seq (.while _ b _) _)) => b
  | _ => .skip
section
variable (ss : List Sh) (μ : Store) (c : Nat) (h : μ[c]? = some (.lst (pagesL ss))) (hA : (allR ss).length ≤ 500)
def tSt (j : Nat) : Co.Env × Store := ([some (.cell c), some (.cell μ.length), some (.int (posN (allR ss).length j : Nat))], μ ++ [.lst (dueL ss j)])
include h hA in
theorem told_cond (call : Nat → List D → Store → RD) (j : Nat) (hj : j < (allR ss).length) : evE P call tCond (tSt ss μ c j).1 (tSt ss μ c j).2 = .ok (.bl true) (tSt ss μ c j).2 := by
  have hp := page_ask ss j hj
  have hl := pagesL_len ss
  have h2 : ∀ t, (μ ++ t)[c]? = some (.lst (pagesL ss)) := fun t => get_app_lt h t
  have hm := dueL_len ss j (Nat.le_of_lt hj)
  have hi : ∀ μ a b, isiS P.sub μ (askPg a b) [.tuple] = some true := fun _ _ _ => rfl
  have hn : ∀ μ a b, biS μ .len [askPg a b] = .ok (.int 5) μ := fun _ _ _ => rfl
  have h0 : ∀ μ a b, ixS μ (askPg a b) (.int 0) = .ok (.str "ask") μ := fun _ _ _ => rfl
  have hc : decide ((j : Int) < (allR ss).length + 1) = true := decide_eq_true (by omega)
  simp only [tCond, b_L_told, tSt]
  simp [h2, hl, hm, atI_nat', hp, hi, hn, h0, hc]
include h hA in
theorem told_stop (call : Nat → List D → Store → RD) : evE P call tCond (tSt ss μ c (allR ss).length).1 (tSt ss μ c (allR ss).length).2 = .ok (.bl false) (tSt ss μ c (allR ss).length).2 := by
  have hp := page_end ss
  have hl := pagesL_len ss
  have h2 : ∀ t, (μ ++ t)[c]? = some (.lst (pagesL ss)) := fun t => get_app_lt h t
  have hm := dueL_len ss _ (Nat.le_refl (allR ss).length)
  have hi : ∀ μ, isiS P.sub μ endD [.tuple] = some true := fun _ => rfl
  have hn : ∀ μ, biS μ .len [endD] = .ok (.int 1) μ := fun _ => rfl
  simp only [tCond, b_L_told, tSt]
  have hc : decide (((allR ss).length : Int) < (allR ss).length + 1) = true := decide_eq_true (by omega)
  simp [h2, hl, hm, atI_nat', hp, hi, hn, hc]
include h hA in
theorem told_body (call : Nat → List D → Store → RD) (j : Nat) (hj : j < (allR ss).length) : evS P call tBody (tSt ss μ c j).1 (tSt ss μ c j).2 = .ok (.nx, (tSt ss μ c (j + 1)).1) (tSt ss μ c (j + 1)).2 := by
  have hp := page_ask ss j hj
  have hl := pagesL_len ss
  have h2 : ∀ t, (μ ++ t)[c]? = some (.lst (pagesL ss)) := fun t => get_app_lt h t
  have hm := dueL_len ss j (Nat.le_of_lt hj)
  have hz : sz (j + 1) = true := sz_of (by omega)
  have ht := dueL_succ ss j hj
  have hlt := posN_lt (allR ss).length (j + 1)
  have h4 : ∀ μ a b, ixS μ (askPg a b) (.int 4) = .ok (.int (b : Nat)) μ := fun _ _ _ => rfl
  have hs : ∀ μ a b, slS μ (askPg a b) none (some 4) = .ok (dueD a) μ := fun _ _ _ => rfl
  have hi : ∀ μ (b : Nat), isiS P.sub μ (.int (b : Int)) [.int] = some true := fun _ _ => rfl
  simp only [tBody, b_L_told, tSt, ht]
  have hc : decide ((posN (allR ss).length (j + 1) : Int) < (allR ss).length + 1) = true := decide_eq_true (by omega)
  simp [h2, hl, hm, hz, atI_nat', hp, h4, hs, hi, hc]
include h hA in
theorem told_pages (n : Nat) : run P (n + 1) f_L_told [.cell c] μ = .ok (.lst ((allR ss).map dueD)) μ := by
  rw [run_def (F := ⟨1, 3, b_L_told⟩) rfl rfl]
  have hw := whileL_fn (cond := evE P (run P n) tCond) (body := evS P (run P n) tBody) (clr := []) (tSt ss μ c) (allR ss).length 0 100000 (by omega)
    (fun j hj => by
      rw [Nat.zero_add, Nat.zero_add]
      refine ⟨told_cond ss μ c h hA _ j hj, _, _, told_body ss μ c h hA _ j hj, ?_⟩
      rw [tEnd_len (by simp [tSt])]
      rfl)
    (by
      rw [Nat.zero_add]
      exact told_stop ss μ c h hA _)
  rw [Nat.zero_add] at hw
  simp only [tCond, tBody, b_L_told, tSt, posN_zero] at hw
  have hp := page_end ss
  have hl := pagesL_len ss
  have h2 : ∀ t, (μ ++ t)[c]? = some (.lst (pagesL ss)) := fun t => get_app_lt h t
  have hd : dueL ss 0 = [] := rfl
  have hf : dueL ss (allR ss).length = (allR ss).map dueD := by simp [dueL]
  have he : ∀ μ, eqS μ endD (.tup [.str "end"]) = some true := fun μ => rfl
  rw [hd] at hw
  have hF : P.fuel = 100000 := rfl
  have hW : ∀ c b clr env μ, evS P (Co.run P n) (.while c b clr) env μ = whileL (evE P (Co.run P n) c) (evS P (Co.run P n) b) clr 100000 env μ := fun _ _ _ _ _ => rfl
  simp only [Int.ofNat_zero, Int.cast_ofNat_Int] at hw
  simp [b_L_told, hW, hw, h2, hl, atI_nat', hp, he]
  rw [hf]
  exact leave_new _ _ (by rw [← hf]; simp [dueL_lt])
end
end K71

set_option linter.all false
set_option maxRecDepth 100000
namespace K71
open PySem L2 Co Tx
/-! ### figures -/
def digS (n : Nat) : Str := ⟨(TL.numL n).toArray⟩
theorem digS_tl (n : Nat) : TL.tl (digS n) = TL.numL n := rfl
theorem numL_head : ∀ (n : Nat) (r : List Nat), TL.numL n = 48 :: r → n = 0 := fun n => by
  induction n using Nat.strongRecOn with
  | _ n ih =>
    intro r e
    by_cases h : n < 10
    · rw [TL.numL_lt h] at e
      have := (List.cons.inj e).1
      omega
    · rw [TL.numL_step (by omega)] at e
      obtain ⟨a, t, ht⟩ := List.exists_cons_of_ne_nil (TL.numL_ne (n / 10))
      rw [ht] at e
      have ha : a = 48 := (List.cons.inj e).1
      rw [ha] at ht
      have := ih (n / 10) (by omega) t ht
      omega
theorem numS_nn {i : Int} (h : 0 ≤ i) : numS i = digS i.natAbs := TL.ext_tl (by rw [numS_tl, if_neg (by omega), digS_tl])
theorem cut_one (x : Str) (c : Nat) (r : List Nat) (h : TL.tl x = c :: r) : cutS x (some 1) none = ⟨r.toArray⟩ := by
  refine TL.ext_tl ?_
  have hl : x.length = r.length + 1 := by rw [TL.len_tl, h]; rfl
  have hx : x.cps.toList = c :: r := h
  show TL.tl (cutS x (some 1) none) = r
  have e1 : HT.sIx x.length 0 (some 1) = 1 := by
    rw [hl]
    simp [HT.sIx]
    try omega
  have e2 : HT.sIx x.length x.length none = x.length := rfl
  have h2 : TL.tl (cutS x (some 1) none) = (x.cps.toList.drop (HT.sIx x.length 0 (some 1))).take (HT.sIx x.length x.length none - HT.sIx x.length 0 (some 1)) := by
    simp [cutS, TL.tl]
  rw [h2, e1, e2, hx, hl]
  simp
theorem numS_neg {i : Int} (h : i < 0) : cutS (numS i) (some 1) none = digS i.natAbs := cut_one _ 45 _ (by rw [numS_tl, if_pos h])
theorem starts_neg {i : Int} (h : i < 0) : Txt.startswith (numS i) "-" = true := by
  have e := numS_tl i
  rw [if_pos h] at e
  have e' : (numS i).cps.toList = 45 :: TL.numL i.natAbs := e
  have el : (numS i).length = (TL.numL i.natAbs).length + 1 := by rw [TL.len_tl, e]; rfl
  unfold Txt.startswith
  rw [PySem.StrLaws.subAt_eq, e', el]
  have h1 : ("-" : Str).length = 1 := by decide +kernel
  have h2 : ("-" : Str).cps.toList = [45] := by decide +kernel
  rw [h1, h2]
  simp
theorem starts_nn {i : Int} (h : 0 ≤ i) : Txt.startswith (numS i) "-" = false := by
  have e := numS_tl i
  rw [if_neg (by omega)] at e
  have e' : (numS i).cps.toList = TL.numL i.natAbs := e
  unfold Txt.startswith
  rw [PySem.StrLaws.subAt_eq, e']
  have h1 : ("-" : Str).length = 1 := by decide +kernel
  have h2 : ("-" : Str).cps.toList = [45] := by decide +kernel
  rw [h1, h2]
  have hd := TL.numL_digits i.natAbs
  obtain ⟨a, t, ht⟩ := List.exists_cons_of_ne_nil (TL.numL_ne i.natAbs)
  rw [ht] at hd ⊢
  have := hd a List.mem_cons_self
  have ha : a ≠ 45 := by omega
  simp [ha]
theorem fig_in (c : Nat) (h1 : 48 ≤ c) (h2 : c ≤ 57) (μ : Store) : inS μ (.str ⟨#[c]⟩) (.str "0123456789") = some true := by
  have : ∀ c, c < 58 → 48 ≤ c → (!(Builtin.Str.occurrences ("0123456789" : Str) ⟨#[c]⟩ 0 ("0123456789" : Str).length 1).isEmpty) = true := by decide +kernel
  have e := this c (by omega) h1
  show some _ = some true
  rw [e]
def fBody : CS := match b_are_figures with
  | .seq _ (.seq (.for _ _ _ b _) _) => b
  | _ => .skip
theorem digS_len (n : Nat) : (digS n).length = (TL.numL n).length := by rw [TL.len_tl, digS_tl]
theorem glo1 : P.consts.getD 1 .non = .str "0123456789" := rfl
theorem figs_run (n k : Nat) (μ : Store) (h : (TL.numL k).length ≤ 60) : run P (n + 1) 3 [.str (digS k), .int 60] μ = .ok (.bl true) μ := by
  rw [run_def (F := ⟨2, 3, b_are_figures⟩) rfl rfl]
  have hne := List.length_pos_iff.mpr (TL.numL_ne k)
  have hl := lenS μ (digS k) (sz_of (by rw [digS_len]; omega))
  rw [digS_len] at hl
  have hc1 : decide ((1 : Int) ≤ (TL.numL k).length) = true := decide_eq_true (by omega)
  have hc2 : decide (((TL.numL k).length : Int) ≤ 60) = true := decide_eq_true (by omega)
  have hf := forS_fn (body := evS P (run P n) fBody) (tg := .nm 2) (clr := [2]) (k := .seq) (ds := [.str (digS k)]) (xs := signs (digS k)) (μ := μ) (env := [some (.str (digS k)), some (.int 60), none])
    (fun _ => ([some (.str (digS k)), some (.int 60), none], μ)) (by simp) rfl (fun j hj => by simp) (fun j hj => by
      have hj' : j < (TL.numL k).length := by simpa [signs, digS] using hj
      have hx : (signs (digS k))[j] = .str ⟨#[(TL.numL k)[j]]⟩ := by simp [signs, digS]
      have hd := TL.numL_digits k _ (List.getElem_mem hj')
      have hi := fig_in (TL.numL k)[j] hd.1 hd.2 μ
      have hg := glo1
      refine ⟨[some (.str (digS k)), some (.int 60), some (.str ⟨#[(TL.numL k)[j]]⟩)], _, _, by rw [hx]; rfl, by
        simp only [fBody, b_are_figures]
        simp [hg, hi]
        exact ⟨rfl, rfl⟩, ?_⟩
      rw [tEnd_len rfl]
      rfl)
  simp only [fBody, b_are_figures] at hf
  simp [b_are_figures, hl, hc1, hc2, hf]
end K71

set_option linter.all false
set_option maxRecDepth 100000
namespace K71
open PySem L2 Co Tx
theorem numS_len' {i : Int} (h : (TL.numL i.natAbs).length ≤ 60) : (numS i).length ≤ 61 := by
  rw [TL.len_tl, numS_tl]
  split
  · simp; omega
  · omega
theorem int_run {i : Int} (h : (TL.numL i.natAbs).length ≤ 60) (μ : Store) : biS μ .int [.str (numS i)] = .ok (.int i) μ := by
  have hl := numS_len' h
  have e : PySem.intText? (numS i) = some i := by
    by_cases h0 : i < 0
    · have e := numS_tl i
      rw [if_pos h0] at e
      have := PySem.intText_neg (x := numS i) e (TL.numL_digits _) (TL.numL_ne _) (by omega)
      rw [this, TL.numL_val]
      congr 1
      omega
    · have e := numS_tl i
      rw [if_neg h0] at e
      have e' : (numS i).cps.toList = TL.numL i.natAbs := e
      have := PySem.intText_digits (x := numS i) (by rw [e']; exact TL.numL_digits _) (by rw [e']; exact TL.numL_ne _) (by omega)
      rw [this, e', TL.numL_val]
      congr 1
      omega
  have e2 : biS μ .int [.str (numS i)] = if decide ((numS i).length ≤ 640) then ofO ((PySem.intText? (numS i)).map D.int) μ else .bad := rfl
  rw [e2, if_pos (decide_eq_true (by omega)), e]
  rfl
theorem dig_head (k : Nat) (μ : Store) (h : (TL.numL k).length ≤ 60) : ∃ c, ixS μ (.str (digS k)) (.int 0) = .ok (.str ⟨#[c]⟩) μ ∧ (c = 48 → k = 0) := by
  obtain ⟨a, t, ht⟩ := List.exists_cons_of_ne_nil (TL.numL_ne k)
  refine ⟨a, ?_, fun e => numL_head k t (by rw [ht, e])⟩
  rw [ixS_str _ _ _ (sz_of (by rw [digS_len]; omega)), atI_zero]
  have e : (digS k).cps.toList = a :: t := ht
  rw [e]
  rfl
theorem one_ne (c : Nat) (h : c ≠ 48) : (⟨#[c]⟩ : Str) ≠ "0" := fun e => by
  have := congrArg TL.tl e
  have e2 : TL.tl "0" = [48] := by decide +kernel
  rw [e2] at this
  exact h (List.cons.inj this).1
theorem number_run (n : Nat) (i : Int) (μ : Store) (h : (TL.numL i.natAbs).length ≤ 60) : run P (n + 2) 4 [.str (numS i), .int 60] μ = .ok (.int i) μ := by
  rw [run_def (F := ⟨2, 3, b_number_of⟩) rfl rfl]
  have h1 := figs_run n i.natAbs μ h
  have h2 := int_run h μ
  have hi : isiS P.sub μ (.str (numS i)) [.str] = some true := rfl
  obtain ⟨c, h3, h4⟩ := dig_head i.natAbs μ h
  have hl := numS_len' h
  have hz : sz (numS i).length = true := sz_of (by omega)
  by_cases h0 : i < 0
  · have s1 := starts_neg h0
    have s2 : slS μ (.str (numS i)) (some 1) none = .ok (.str (digS i.natAbs)) μ := by
      have e : slS μ (.str (numS i)) (some 1) none = if sz (numS i).length then .ok (.str (cutS (numS i) (some 1) none)) μ else .bad := rfl
      rw [e, if_pos hz, numS_neg h0]
    have hc : (⟨#[c]⟩ : Str) ≠ "0" := one_ne c fun e => by have := h4 e; omega
    have sb : bmS μ .startswith (.str (numS i)) [.str "-"] = .ok (.bl true) μ := by
      show Res.ok (D.bl (Txt.startswith (numS i) "-")) μ = _
      rw [s1]
    simp [b_number_of, hi, sb, s2, h1, h3, hc, h2]
  · have s1 := starts_nn (Int.not_lt.mp h0)
    have sb : bmS μ .startswith (.str (numS i)) [.str "-"] = .ok (.bl false) μ := by
      show Res.ok (D.bl (Txt.startswith (numS i) "-")) μ = _
      rw [s1]
    have e := numS_nn (Int.not_lt.mp h0)
    rw [← e] at h1 h3
    by_cases hc : c = 48
    · have hi0 : i = 0 := by have := h4 hc; omega
      have en : numS i = "0" := by rw [hi0]; rfl
      rw [en] at h1 h2 h3 hi sb ⊢
      subst hc
      have e0 : (⟨#[48]⟩ : Str) = "0" := by decide +kernel
      rw [e0] at h3
      simp [b_number_of, hi, sb, h1, h3, h2]
    · have hc := one_ne c hc
      simp [b_number_of, hi, sb, h1, h3, hc, h2]
end K71

set_option linter.all false
set_option maxRecDepth 100000
namespace K71
open PySem L2 Co Tx
theorem numS_free (i : Int) : (32 : Nat) ∉ TL.tl (numS i) := by
  rw [numS_tl]
  split
  · intro h
    rcases List.mem_cons.mp h with h | h
    · cases h
    · exact TL.numL_free (by omega) h
  · exact TL.numL_free (by omega)
theorem told_split (r : Row) : Txt.split (toldS r) " " = ([("whole" : Str), numS r.lo, numS r.hi] : List Str) := by
  have e1 : TL.tl (" " : Str) = [32] := by decide +kernel
  have e2 : TL.tl ("whole" : Str) = [119, 104, 111, 108, 101] := by decide +kernel
  have e3 : TL.tl ("whole " : Str) = [119, 104, 111, 108, 101, 32] := by decide +kernel
  have h := TL.split_join (y := " ") (s := 32) (S := []) e1 (by decide +kernel) (parts := ([("whole" : Str), numS r.lo, numS r.hi] : List Str)) (by simp) (fun p hp => by
    simp only [List.mem_cons, List.mem_nil_iff, or_false] at hp
    rcases hp with hp | hp | hp
    · subst hp
      rw [e2]
      decide
    · subst hp
      exact numS_free _
    · subst hp
      exact numS_free _)
  have ej : Txt.join " " [("whole" : Str), numS r.lo, numS r.hi] = toldS r := by
    rw [TL.join_eq]
    refine TL.ext_tl ?_
    rw [TL.tl_join]
    simp [TL.joinL, toldS, TL.tl_append, e1, e2, e3]
  rw [ej] at h
  exact h
theorem row_dig {r : Row} (h : RowOk r) : (TL.numL r.lo.natAbs).length ≤ 60 ∧ (TL.numL r.hi.natAbs).length ≤ 60 := by
  obtain ⟨h1, h2, h3⟩ := h
  exact ⟨Nat.le_trans (numL_len60 (by omega)) (by decide), Nat.le_trans (numL_len60 (by omega)) (by decide)⟩
theorem toldS_len {r : Row} (h : RowOk r) : (toldS r).length ≤ 200 := by
  obtain ⟨h1, h2⟩ := row_dig h
  have a := numS_len' h1
  have b := numS_len' h2
  have w6 : ("whole " : Str).length = 6 := by decide +kernel
  have w1 : (" " : Str).length = 1 := by decide +kernel
  unfold toldS
  rw [len_app, len_app, len_app]
  omega
theorem whole_of_run (n : Nat) (r : Row) (μ : Store) (h : RowOk r) : run P (n + 3) 29 [.lst [.str (numS r.lo), .str (numS r.hi)]] μ = .ok (kindD r) μ := by
  rw [run_def (F := ⟨1, 3, b_whole_of⟩) rfl rfl]
  obtain ⟨h1, h2⟩ := row_dig h
  have n1 := number_run n r.lo μ h1
  have n2 := number_run n r.hi μ h2
  have hm := whole_make (n + 1) r.lo r.hi μ
  have hc : decide (r.hi < r.lo) = false := decide_eq_false (by have := h.2.1; omega)
  simp [b_whole_of, evS_try, atI_zero, atI_one, n1, n2, hc, hm, kindD]
theorem kind_run (n : Nat) (r : Row) (μ : Store) (h : RowOk r) : run P (n + 4) 31 [.str (toldS r)] μ = .ok (kindD r) μ := by
  rw [run_def (F := ⟨1, 4, b_kind_of⟩) rfl rfl]
  have hi : isiS P.sub μ (.str (toldS r)) [.str] = some true := rfl
  have hl := toldS_len h
  have hs : bmS μ .split (.str (toldS r)) [.str " "] = .ok (.lst [.str "whole", .str (numS r.lo), .str (numS r.hi)]) μ := by
    have e : bmS μ .split (.str (toldS r)) [.str " "] = if !((" " : Str).length == 0) && (" " : Str).cps.all (· < 256) && sz ((toldS r).length + 2) then .ok (.lst ((Txt.split (toldS r) " ").map D.str)) μ else .bad := rfl
    have e2 : (!((" " : Str).length == 0) && (" " : Str).cps.all (· < 256)) = true := by decide +kernel
    rw [e, e2, sz_of (by omega), told_split]
    rfl
  have hb : bmTy μ .split (.str (toldS r)) = true := rfl
  have hsl : slS μ (.lst [.str "whole", .str (numS r.lo), .str (numS r.hi)]) (some 1) none = .ok (.lst [.str (numS r.lo), .str (numS r.hi)]) μ := rfl
  have he : eqS μ (.lst [.str "whole", .str (numS r.lo), .str (numS r.hi)]) (.lst [.str "yesno"]) = some false := rfl
  have hw := whole_of_run n r μ h
  simp [b_kind_of, hi, hs, hb, hsl, he, atI_zero, hw]
end K71

set_option linter.all false
set_option maxRecDepth 100000
namespace K71
open PySem L2 Co Tx
/-! ### a run -/
/-- the store behind a run's making -/
def RU (μ : Store) (bk : Nat) (log : List D) (fil tal : List (D × D)) : Store :=
  μ ++ [.ins 17 [(24, .cell bk), (25, .cell (μ.length + 1)), (26, .cell (μ.length + 2)), (27, .cell (μ.length + 3)), (28, .cell (μ.length + 4)), (14, .int 0), (29, .str "")], .lst log, .dic true fil, .dic false tal, .dic false []]
def nmK (r : Row) : D := .tup [.str r.nm, .str ""]
theorem fits_yes (n : Nat) (r : Row) (a : Int) (μ : Store) (h1 : r.lo ≤ a) (h2 : a ≤ r.hi) : run P (n + 2) 12 [kindD r, .int a] μ = .ok (.bl true) μ := by
  rw [run_def (F := ⟨2, 2, b_Whole_fits⟩) rfl rfl]
  have hw : run P (n + 1) 1 [.int a] μ = .ok (.bl true) μ := by
    rw [run_def (F := ⟨1, 1, b_is_whole⟩) rfl rfl]
    have i1 : isiS P.sub μ (.int a) [.int] = some true := rfl
    have i2 : isiS P.sub μ (.int a) [.bool] = some false := rfl
    simp [b_is_whole, i1, i2]
  have i3 : ∀ μ, insOf μ (kindD r) = some (2, [(1, .int r.lo), (2, .int r.hi)]) := fun _ => rfl
  simp [b_Whole_fits, hw, i3, fget, h1, h2]
theorem fits_no (n : Nat) (r : Row) (μ : Store) : run P (n + 2) 12 [kindD r, .non] μ = .ok (.bl false) μ := by
  rw [run_def (F := ⟨2, 2, b_Whole_fits⟩) rfl rfl]
  have hw : run P (n + 1) 1 [.non] μ = .ok (.bl false) μ := by
    rw [run_def (F := ⟨1, 1, b_is_whole⟩) rfl rfl]
    have i1 : isiS P.sub μ .non [.int] = some false := rfl
    simp [b_is_whole, i1]
  simp [b_Whole_fits, hw]
theorem rank_run (n : Nat) (r : Row) (a : D) (μ : Store) : run P (n + 1) 14 [kindD r, a] μ = .ok a μ := by
  rw [run_def (F := ⟨2, 2, b_Whole_rank⟩) rfl rfl]
  simp [b_Whole_rank]
theorem thing_run (n : Nat) (o : D) (μ : Store) : run P (n + 1) 68 [o, .non] μ = .ok (.str "") μ := by
  rw [run_def (F := ⟨2, 2, b_Run_thing_of⟩) rfl rfl]
  simp [b_Run_thing_of]
section
variable (μ : Store) (bk : Nat) (log : List D) (fil tal : List (D × D))
theorem RU_o : (RU μ bk log fil tal)[μ.length]? = some (.ins 17 [(24, .cell bk), (25, .cell (μ.length + 1)), (26, .cell (μ.length + 2)), (27, .cell (μ.length + 3)), (28, .cell (μ.length + 4)), (14, .int 0), (29, .str "")]) := by simp [RU]
theorem RU_l : (RU μ bk log fil tal)[μ.length + 1]? = some (.lst log) := by simp [RU]
theorem RU_f : (RU μ bk log fil tal)[μ.length + 2]? = some (.dic true fil) := by simp [RU]
theorem RU_t : (RU μ bk log fil tal)[μ.length + 3]? = some (.dic false tal) := by simp [RU]
theorem RU_len : (RU μ bk log fil tal).length = μ.length + 5 := by simp [RU]
theorem RU_sl (log' : List D) : (RU μ bk log fil tal).set (μ.length + 1) (.lst log') = RU μ bk log' fil tal := by simp [RU]
theorem RU_sf (fil' : List (D × D)) : (RU μ bk log fil tal).set (μ.length + 2) (.dic true fil') = RU μ bk log fil' tal := by simp [RU]
theorem RU_st (tal' : List (D × D)) : (RU μ bk log fil tal).set (μ.length + 3) (.dic false tal') = RU μ bk log fil tal' := by simp [RU]
theorem run_make (n : Nat) : makeS P (run P (n + 1)) 17 false [.cell bk] μ = .ok (.cell μ.length) (RU μ bk [] [] []) := by
  refine make_cell P μ _ (in_17) ?_
  rw [run_def (F := ⟨2, 2, b_Run___init__⟩) rfl rfl]
  simp [b_Run___init__, fput, RU]
  rw [leave_stay]
  simp [keeps_cons]
end
theorem ask_yes (n : Nat) (μ : Store) (bk : Nat) (log : List D) (fil tal kvs : List (D × D)) (r : Row) (k : Nat) (a : Int) (hr : RowOk r) (hb : μ[bk]? = some (.dic true kvs)) (hk : kfind kvs (nmK r) = some (.int a)) (ht : kfind tal (.str r.nm) = none) (h1 : r.lo ≤ a) (h2 : a ≤ r.hi)
    (hz : log.length + fil.length + tal.length ≤ 10000) :
    run P (n + 5) 69 [.cell μ.length, askPg r k] (RU μ bk log fil tal) = .ok (.int k) (RU μ bk (log ++ [.tup [.str "ask", .str r.nm, .str "", .int a]]) (kput fil (nmK r) (.int a)) (kput tal (.str r.nm) (.int a))) := by
  rw [run_def (F := ⟨2, 11, b_Run_ask⟩) rfl rfl]
  have e1 := kind_run n r (RU μ bk log fil tal) hr
  have e2 := thing_run (n + 3) (.cell μ.length) (RU μ bk log fil tal)
  have e3 := fits_yes (n + 2) r a (RU μ bk log fil tal) h1 h2
  have e4 := rank_run (n + 3) r (.int a) (RU μ bk log fil tal)
  have g0 := fun log fil tal => RU_o μ bk log fil tal
  have g1 := fun log fil tal => RU_l μ bk log fil tal
  have g2 := fun log fil tal => RU_f μ bk log fil tal
  have g3 := fun log fil tal => RU_t μ bk log fil tal
  have gb : ∀ log fil tal, (RU μ bk log fil tal)[bk]? = some (.dic true kvs) := fun log fil tal => get_app_lt hb _
  have m1 : ∀ μ, methOf P μ 1 (kindD r) = some 12 := fun _ => rfl
  have m2 : ∀ μ, methOf P μ 2 (kindD r) = some 14 := fun _ => rfl
  have z1 : sz (log.length + 1) = true := sz_of (by omega)
  have z2 : sz (fil.length + 1) = true := sz_of (by omega)
  have z3 : sz (tal.length + 1) = true := sz_of (by omega)
  have hi : ∀ μ, isiS P.sub μ (.int a) [.tuple] = some false := fun _ => rfl
  simp only [nmK] at hk
  have s1 := fun log' => RU_sl μ bk log fil tal log'
  simp [b_Run_ask, askPg, e1, e2, e3, e4, g0, g1, g2, g3, gb, fget, hk, m1, m2, ht, z1, z2, z3, hi, RU_sl, RU_sf, RU_st, nmK]
  exact leave_len (by simp [RU_len])
theorem ask_no (n : Nat) (μ : Store) (bk : Nat) (log : List D) (fil tal kvs : List (D × D)) (r : Row) (k : Nat) (hr : RowOk r) (hb : μ[bk]? = some (.dic true kvs)) (hk : kfind kvs (nmK r) = none) (hz : log.length ≤ 10000) :
    run P (n + 5) 69 [.cell μ.length, askPg r k] (RU μ bk log fil tal) = .ok .non (RU μ bk (log ++ [.tup [.str "open", .str r.nm, .str ""]]) fil tal) := by
  rw [run_def (F := ⟨2, 11, b_Run_ask⟩) rfl rfl]
  have e1 := kind_run n r (RU μ bk log fil tal) hr
  have e2 := thing_run (n + 3) (.cell μ.length) (RU μ bk log fil tal)
  have e3 := fits_no (n + 2) r (RU μ bk log fil tal)
  have g0 := fun log fil tal => RU_o μ bk log fil tal
  have g1 := fun log fil tal => RU_l μ bk log fil tal
  have gb : ∀ log fil tal, (RU μ bk log fil tal)[bk]? = some (.dic true kvs) := fun log fil tal => get_app_lt hb _
  have m1 : ∀ μ, methOf P μ 1 (kindD r) = some 12 := fun _ => rfl
  have z1 : sz (log.length + 1) = true := sz_of (by omega)
  simp only [nmK] at hk
  simp [b_Run_ask, askPg, e1, e2, e3, g0, g1, gb, fget, hk, m1, z1, RU_sl]
  exact leave_len (by simp [RU_len])
theorem step_ask (n : Nat) (μ : Store) (bk : Nat) (log : List D) (fil tal : List (D × D)) (r : Row) (k : Nat) {d : D} {μ' : Store} (h : run P n 69 [.cell μ.length, askPg r k] (RU μ bk log fil tal) = .ok d μ') (hl : μ'.length = (RU μ bk log fil tal).length) :
    run P (n + 1) 74 [.cell μ.length, askPg r k] (RU μ bk log fil tal) = .ok d μ' := by
  rw [run_def (F := ⟨2, 3, b_Run_step⟩) rfl rfl]
  have h0 : ∀ μ a b, ixS μ (askPg a b) (.int 0) = .ok (.str "ask") μ := fun _ _ _ => rfl
  have g0 := RU_o μ bk log fil tal
  simp [b_Run_step, h0, g0, h]
  exact leave_len hl
theorem step_end (n : Nat) (μ : Store) (bk : Nat) (log : List D) (fil tal : List (D × D)) (hz : log.length ≤ 10000) :
    run P (n + 1) 74 [.cell μ.length, endD] (RU μ bk log fil tal) = .ok .non (RU μ bk (log ++ [endD]) fil tal) := by
  rw [run_def (F := ⟨2, 3, b_Run_step⟩) rfl rfl]
  have h0 : ∀ μ, ixS μ endD (.int 0) = .ok (.str "end") μ := fun _ => rfl
  have g0 := RU_o μ bk log fil tal
  have g1 := RU_l μ bk log fil tal
  have z1 : sz (log.length + 1) = true := sz_of (by omega)
  have hin : ∀ μ, inS μ (.str "end") (.lst [.str "pass", .str "warn", .str "held"]) = some false := fun _ => rfl
  have n1 : ("end" : Str) ≠ "ask" := by decide +kernel
  have n2 : ("end" : Str) ≠ "compare" := by decide +kernel
  have n3 : ("end" : Str) ≠ "total" := by decide +kernel
  have n4 : ("end" : Str) ≠ "more" := by decide +kernel
  simp [b_Run_step, h0, hin, g0, g1, fget, z1, RU_sl, n1, n2, n3, n4]
  exact leave_len (by simp [RU_len])
end K71

set_option linter.all false
set_option maxRecDepth 100000
namespace K71
open PySem L2 Co Tx
/-! ### the going of a run -/
def rowAt (ss : List Sh) (j : Nat) : Row := (allR ss).getD j ⟨"", 0, 0⟩
theorem rowAt_eq (ss : List Sh) (j : Nat) (h : j < (allR ss).length) : rowAt ss j = (allR ss)[j] := by simp [rowAt, h]
def askT (r : Row) (a : Int) : D := .tup [.str "ask", .str r.nm, .str "", .int a]
def logL (ss : List Sh) (ans : Nat → Int) (j : Nat) : List D := (List.range j).map fun i => askT (rowAt ss i) (ans i)
def filL (ss : List Sh) (ans : Nat → Int) : Nat → List (D × D)
  | 0 => []
  | j + 1 => kput (filL ss ans j) (nmK (rowAt ss j)) (.int (ans j))
def talL (ss : List Sh) (ans : Nat → Int) : Nat → List (D × D)
  | 0 => []
  | j + 1 => kput (talL ss ans j) (.str (rowAt ss j).nm) (.int (ans j))
section
variable (ss : List Sh) (ans : Nat → Int)
theorem logL_len (j : Nat) : (logL ss ans j).length = j := by simp [logL]
theorem logL_succ (j : Nat) : logL ss ans (j + 1) = logL ss ans j ++ [askT (rowAt ss j) (ans j)] := map_range_succ _ _
theorem filL_len : ∀ j, (filL ss ans j).length ≤ j
  | 0 => Nat.le_refl _
  | j + 1 => Nat.le_trans (kput_len _ _ _) (Nat.succ_le_succ (filL_len j))
theorem talL_len : ∀ j, (talL ss ans j).length ≤ j
  | 0 => Nat.le_refl _
  | j + 1 => Nat.le_trans (kput_len _ _ _) (Nat.succ_le_succ (talL_len j))
theorem filL_lt (n : Nat) : ∀ j, D.ltp n (filL ss ans j) = true
  | 0 => rfl
  | j + 1 => kput_lt (filL_lt n j) (by simp [nmK]) (by simp)
/-- names unlike each other -/
def Uniq : Prop := ∀ i j, i < (allR ss).length → j < (allR ss).length → (rowAt ss i).nm = (rowAt ss j).nm → i = j
theorem fil_find (hu : Uniq ss) (j : Nat) (hj : j < (allR ss).length) : ∀ t, t ≤ (allR ss).length → kfind (filL ss ans t) (nmK (rowAt ss j)) = if j < t then some (.int (ans j)) else none
  | 0, _ => rfl
  | t + 1, ht => by
    show kfind (kput _ _ _) _ = _
    rw [kfind_put, fil_find hu j hj t (by omega)]
    by_cases e : j = t
    · subst e
      rw [if_pos rfl, if_pos (by omega)]
    · have hn : nmK (rowAt ss j) ≠ nmK (rowAt ss t) := fun h => by
        have h2 : (rowAt ss j).nm = (rowAt ss t).nm := by
          simp only [nmK, D.tup.injEq, List.cons.injEq, D.str.injEq, and_true] at h
          exact h
        exact e (hu j t hj (by omega) h2)
      rw [if_neg hn]
      by_cases h3 : j < t
      · rw [if_pos h3, if_pos (by omega)]
      · rw [if_neg h3, if_neg (by omega)]
theorem tal_find (hu : Uniq ss) (j : Nat) (hj : j < (allR ss).length) : ∀ t, t ≤ j → kfind (talL ss ans t) (.str (rowAt ss j).nm) = none
  | 0, _ => rfl
  | t + 1, ht => by
    show kfind (kput _ _ _) _ = _
    rw [kfind_put, tal_find hu j hj t (by omega)]
    have hn : D.str (rowAt ss j).nm ≠ D.str (rowAt ss t).nm := fun h => by
      have h2 : (rowAt ss j).nm = (rowAt ss t).nm := D.str.inj h
      have := hu j t hj (by omega) h2
      omega
    rw [if_neg hn]
def lastD (T : Nat) : D := if T < (allR ss).length then .tup [.str "open", .str (rowAt ss T).nm, .str ""] else endD
variable (μ : Store) (c bk T : Nat)
def rSt (j : Nat) : Co.Env × Store :=
  if j ≤ T then ([some (.cell c), some (.cell bk), some (.cell μ.length), some (.int (posN (allR ss).length j : Nat))], RU μ bk (logL ss ans j) (filL ss ans j) (talL ss ans j))
  else ([some (.cell c), some (.cell bk), some (.cell μ.length), some .non], RU μ bk (logL ss ans T ++ [lastD ss T]) (filL ss ans T) (talL ss ans T))
def rCond : CE := match b_run with
  | .seq _ (.seq _ (.seq (.while c _ _) _)) => c
  | _ => .lit .non
def rBody : CS := match b_run with
  | .seq _ (.seq _ (.seq (.while _ b _) _)) => b
  | _ => .skip
variable (hc : μ[c]? = some (.lst (pagesL ss))) (hb : μ[bk]? = some (.dic true (filL ss ans T))) (hT : T ≤ (allR ss).length) (hA : (allR ss).length ≤ 500) (hR : ∀ r ∈ allR ss, RowOk r) (hu : Uniq ss)
  (ha : ∀ j, j < (allR ss).length → (rowAt ss j).lo ≤ ans j ∧ ans j ≤ (rowAt ss j).hi)
include hc hb hT hA hR hu ha
theorem turn_a (n j : Nat) (hj : j < T) : evS P (run P (n + 6)) rBody (rSt ss ans μ c bk T j).1 (rSt ss ans μ c bk T j).2 = .ok (.nx, (rSt ss ans μ c bk T (j + 1)).1) (rSt ss ans μ c bk T (j + 1)).2 := by
  have hj' : j < (allR ss).length := by omega
  have hp := page_ask ss j hj'
  rw [← rowAt_eq ss j hj'] at hp
  have hk := fil_find ss ans hu j hj' T hT
  rw [if_pos hj] at hk
  obtain ⟨a1, a2⟩ := ha j hj'
  have l1 := logL_len ss ans j
  have l2 := filL_len ss ans j
  have l3 := talL_len ss ans j
  have hr : RowOk (rowAt ss j) := by
    rw [rowAt_eq ss j hj']
    exact hR _ (List.getElem_mem hj')
  have h1 := ask_yes n μ bk (logL ss ans j) (filL ss ans j) (talL ss ans j) (filL ss ans T) (rowAt ss j) (posN (allR ss).length (j + 1)) (ans j) hr hb hk (tal_find ss ans hu j hj' j (Nat.le_refl _)) a1 a2 (by omega)
  have h2 := step_ask _ _ _ _ _ _ _ _ h1 (by simp [RU_len])
  have g0 := RU_o μ bk (logL ss ans j) (filL ss ans j) (talL ss ans j)
  have gc : (RU μ bk (logL ss ans j) (filL ss ans j) (talL ss ans j))[c]? = some (.lst (pagesL ss)) := get_app_lt hc _
  have e1 : rSt ss ans μ c bk T j = ([some (.cell c), some (.cell bk), some (.cell μ.length), some (.int (posN (allR ss).length j : Nat))], RU μ bk (logL ss ans j) (filL ss ans j) (talL ss ans j)) := if_pos (by omega)
  have e2 : rSt ss ans μ c bk T (j + 1) = ([some (.cell c), some (.cell bk), some (.cell μ.length), some (.int (posN (allR ss).length (j + 1) : Nat))], RU μ bk (logL ss ans (j + 1)) (filL ss ans (j + 1)) (talL ss ans (j + 1))) := if_pos (by omega)
  rw [e1, e2]
  simp only [rBody, b_run]
  simp [gc, atI_nat', hp, g0, h2, logL_succ, filL, talL, askT]
theorem turn_z (n : Nat) : evS P (run P (n + 6)) rBody (rSt ss ans μ c bk T T).1 (rSt ss ans μ c bk T T).2 = .ok (.nx, (rSt ss ans μ c bk T (T + 1)).1) (rSt ss ans μ c bk T (T + 1)).2 := by
  have l1 := logL_len ss ans T
  have g0 := RU_o μ bk (logL ss ans T) (filL ss ans T) (talL ss ans T)
  have gc : (RU μ bk (logL ss ans T) (filL ss ans T) (talL ss ans T))[c]? = some (.lst (pagesL ss)) := get_app_lt hc _
  have e1 : rSt ss ans μ c bk T T = ([some (.cell c), some (.cell bk), some (.cell μ.length), some (.int (posN (allR ss).length T : Nat))], RU μ bk (logL ss ans T) (filL ss ans T) (talL ss ans T)) := if_pos (by omega)
  have e2 : rSt ss ans μ c bk T (T + 1) = ([some (.cell c), some (.cell bk), some (.cell μ.length), some .non], RU μ bk (logL ss ans T ++ [lastD ss T]) (filL ss ans T) (talL ss ans T)) := if_neg (by omega)
  rw [e1, e2]
  simp only [rBody, b_run]
  by_cases hl : T < (allR ss).length
  · have hp := page_ask ss T hl
    rw [← rowAt_eq ss T hl] at hp
    have hk := fil_find ss ans hu T hl T hT
    rw [if_neg (by omega)] at hk
    have hr : RowOk (rowAt ss T) := by
      rw [rowAt_eq ss T hl]
      exact hR _ (List.getElem_mem hl)
    have h1 := ask_no n μ bk (logL ss ans T) (filL ss ans T) (talL ss ans T) (filL ss ans T) (rowAt ss T) (posN (allR ss).length (T + 1)) hr hb hk (by omega)
    have h2 := step_ask _ _ _ _ _ _ _ _ h1 (by simp [RU_len])
    have e3 : lastD ss T = .tup [.str "open", .str (rowAt ss T).nm, .str ""] := if_pos hl
    rw [e3]
    simp [gc, atI_nat', hp, g0, h2]
  · have hTe : T = (allR ss).length := by omega
    have hp := page_end ss
    rw [← hTe] at hp ⊢
    have h2 := step_end (n + 5) μ bk (logL ss ans T) (filL ss ans T) (talL ss ans T) (by omega)
    have e3 : lastD ss T = endD := if_neg hl
    rw [e3]
    simp [gc, atI_nat', hp, g0, h2]
theorem run_run (n : Nat) : run P (n + 7) 75 [.cell c, .cell bk] μ = .ok (.cell (μ.length + 1)) (RU μ bk (logL ss ans T ++ [lastD ss T]) (filL ss ans T) (talL ss ans T)) := by
  rw [run_def (F := ⟨2, 4, b_run⟩) rfl rfl]
  have e2 : rSt ss ans μ c bk T (T + 1) = ([some (.cell c), some (.cell bk), some (.cell μ.length), some .non], RU μ bk (logL ss ans T ++ [lastD ss T]) (filL ss ans T) (talL ss ans T)) := if_neg (by omega)
  have e0 : rSt ss ans μ c bk T 0 = ([some (.cell c), some (.cell bk), some (.cell μ.length), some (.int 0)], RU μ bk [] [] []) := by
    have h := posN_zero (allR ss).length
    have : rSt ss ans μ c bk T 0 = ([some (.cell c), some (.cell bk), some (.cell μ.length), some (.int (posN (allR ss).length 0 : Nat))], RU μ bk (logL ss ans 0) (filL ss ans 0) (talL ss ans 0)) := if_pos (by omega)
    rw [this, h]
    rfl
  have hw := whileL_fn (cond := evE P (run P (n + 6)) rCond) (body := evS P (run P (n + 6)) rBody) (clr := []) (rSt ss ans μ c bk T) (T + 1) 0 100000 (by omega)
    (fun j hj => by
      rw [Nat.zero_add, Nat.zero_add]
      have hlen : ∀ j, (rSt ss ans μ c bk T j).2.length = μ.length + 5 := fun j => by
        unfold rSt
        split <;> exact RU_len _ _ _ _ _
      refine ⟨?_, (rSt ss ans μ c bk T (j + 1)).1, (rSt ss ans μ c bk T (j + 1)).2, ?_, ?_⟩
      · have e1 : rSt ss ans μ c bk T j = ([some (.cell c), some (.cell bk), some (.cell μ.length), some (.int (posN (allR ss).length j : Nat))], RU μ bk (logL ss ans j) (filL ss ans j) (talL ss ans j)) := if_pos (by omega)
        rw [e1]
        simp only [rCond, b_run]
        simp
      · by_cases e : j = T
        · subst e
          exact turn_z ss ans μ c bk j hc hb hT hA hR hu ha n
        · exact turn_a ss ans μ c bk T hc hb hT hA hR hu ha n j (by omega)
      · rw [tEnd_len (by rw [hlen, hlen])]
        rfl)
    (by
      rw [Nat.zero_add, e2]
      simp only [rCond, b_run]
      simp)
  rw [Nat.zero_add, e2, e0] at hw
  have hm := run_make μ bk (n + 5)
  have hW : ∀ c b clr env μ, evS P (Co.run P (n + 6)) (.while c b clr) env μ = whileL (evE P (Co.run P (n + 6)) c) (evS P (Co.run P (n + 6)) b) clr 100000 env μ := fun _ _ _ _ _ => rfl
  have g0 := RU_o μ bk (logL ss ans T ++ [lastD ss T]) (filL ss ans T) (talL ss ans T)
  simp only [rCond, rBody, b_run] at hw
  simp [b_run, hm, hW, hw, g0, fget]
  exact leave_val (by simp)
end
end K71

set_option linter.all false
set_option maxRecDepth 100000
namespace K71
open PySem L2 Co Tx
/-! ### the law's own paper -/
def shNm (s : Nat) : Str := ("sheet" : Str) ++ ⟨#[97 + s]⟩
def rowsOf (ns : List Int) (k m : Nat) : List Row := (List.range m).map fun t => rowOf ns (k + t)
def shOf (ns : List Int) (s : Nat) : Sh := ⟨shNm s, rowsOf ns (startOf ns s) (mOf ns s)⟩
def shs (ns : List Int) (j : Nat) : List Sh := (List.range j).map (shOf ns)
theorem rowsOf_app (ns : List Int) (k a b : Nat) : rowsOf ns k (a + b) = rowsOf ns k a ++ rowsOf ns (k + a) b := by
  unfold rowsOf
  rw [List.range_add, List.map_append, List.map_map]
  congr 1
  exact List.map_congr_left fun t _ => by
    show rowOf ns (k + (a + t)) = rowOf ns (k + a + t)
    rw [Nat.add_assoc]
theorem shs_all (ns : List Int) : ∀ j, allR (shs ns j) = rowsOf ns 0 (startOf ns j)
  | 0 => rfl
  | j + 1 => by
    have e : shs ns (j + 1) = shs ns j ++ [shOf ns j] := map_range_succ _ _
    have h := shs_all ns j
    unfold allR at h ⊢
    rw [e, List.map_append, List.flatten_append, h]
    show _ = rowsOf ns 0 (startOf ns j + mOf ns j)
    rw [rowsOf_app, Nat.zero_add]
    simp [shOf]
theorem shs_n (ns : List Int) (j : Nat) : (allR (shs ns j)).length = startOf ns j := by rw [shs_all]; simp [rowsOf]
theorem shs_row (ns : List Int) (j i : Nat) (h : i < startOf ns j) : rowAt (shs ns j) i = rowOf ns i := by
  unfold rowAt
  rw [shs_all]
  simp [rowsOf, h]
theorem rowOf_ok (ns : List Int) (k : Nat) : RowOk (rowOf ns k) := by
  unfold RowOk rowOf lowI
  have h : 0 ≤ c40 ns k := by unfold c40; omega
  generalize c40 ns k = z at *
  refine ⟨?_, ?_, ?_⟩
  · show _ ≤ z * 48271 % 2000000000000000000 - 1000000000000000000
    omega
  · show z * 48271 % 2000000000000000000 - 1000000000000000000 ≤ z * 48271 % 2000000000000000000 - 1000000000000000000 + z / 3 % 1000000000000
    omega
  · show z * 48271 % 2000000000000000000 - 1000000000000000000 + z / 3 % 1000000000000 < _
    omega
theorem shs_ok (ns : List Int) (j : Nat) : ∀ r ∈ allR (shs ns j), RowOk r := fun r h => by
  rw [shs_all] at h
  obtain ⟨t, _, rfl⟩ := List.mem_map.mp h
  exact rowOf_ok _ _
theorem nameS_inj (ns : List Int) {i j : Nat} (hi : i < 26) (hj : j < 26) (h : nameS ns i = nameS ns j) : i = j := by
  have h2 := congrArg TL.tl h
  have e : ∀ a b : Nat, TL.tl (⟨#[a]⟩ : Str) = [a] := fun _ _ => rfl
  simp only [nameS, TL.tl_append, List.append_assoc, e _ 0] at h2
  have h3 := List.append_cancel_left h2
  simp only [List.cons_append, List.cons.injEq] at h3
  omega
theorem shs_uniq (ns : List Int) (j : Nat) (hj : j ≤ 5) : Uniq (shs ns j) := fun a b ha hb h => by
  rw [shs_n] at ha hb
  have := start_le ns j
  rw [shs_row ns j a ha, shs_row ns j b hb] at h
  exact nameS_inj ns (by omega) (by omega) h
theorem rowsD_eq (ns : List Int) (k m : Nat) : rowsD ns k m = (rowsOf ns k m).map rowD := by simp [rowsD, rowsOf]
theorem shs_len (ns : List Int) (j : Nat) : (shs ns j).length = j := by simp [shs]
/-! ### the sheets made -/
def askOf : D → D
  | .tup [.str x, .int a, .int b] => askD ⟨x, a, b⟩
  | d => d
theorem askOf_row (r : Row) : askOf (rowD r) = askD r := rfl
def lIn : CS := match b_law with
  | .seq _ (.seq _ (.seq _ (.seq (.for _ _ _ b _) _))) => b
  | _ => .skip
def envA (ns : List Int) (a b : Option D) : Co.Env := [some (.lst (ns.map D.int)), some (.lst (shD ns (nSh ns))), some (.cell 0), some (.cell 1), a, b, none, none, none, none, none, none, none, none, none, none]
def stA (ns : List Int) (j : Nat) : Store := [.lst ((shs ns j).map shtD), .lst ((allR (shs ns j)).map rowD)]
theorem lc_asks (n : Nat) (ns : List Int) (rs : List Row) (a : Option D) (μ : Store) (hl : rs.length ≤ 1000) :
    lcS (evE P (run P (n + 2)) (.lit (.bl true))) (evE P (run P (n + 2)) (.make 7 true (.acons (.ix (.var 13) (.lit (.int 0))) (.acons (.make 2 true (.acons (.ix (.var 13) (.lit (.int 1))) (.acons (.ix (.var 13) (.lit (.int 2))) .anil)) []) .anil)) [.non])) (.nm 13) [13] .seq [.lst (rs.map rowD)] true
      (envA ns a (some (.lst (rs.map rowD)))) μ = .ok (.lst (rs.map askD)) μ := by
  have h := lcS_map (cond := evE P (run P (n + 2)) (.lit (.bl true))) (elt := evE P (run P (n + 2)) (.make 7 true (.acons (.ix (.var 13) (.lit (.int 0))) (.acons (.make 2 true (.acons (.ix (.var 13) (.lit (.int 1))) (.acons (.ix (.var 13) (.lit (.int 2))) .anil)) []) .anil)) [.non])) (tg := .nm 13) (own := [13]) (k := .seq) (ds := [.lst (rs.map rowD)]) (xs := rs.map rowD)
    (env := envA ns a (some (.lst (rs.map rowD)))) (μ := μ) askOf rfl (fun ys => by simp) (by simp; omega)
    (fun x hx => by
      obtain ⟨r, _, rfl⟩ := List.mem_map.mp hx
      refine ⟨(envA ns a (some (.lst (rs.map rowD)))).set 13 (some (rowD r)), rfl, fun ys => ⟨rfl, ?_⟩⟩
      have h1 := whole_make (n + 1) r.lo r.hi (μ ++ [.lst ys])
      have h2 := ask_make n r.nm (kindD r) .non (μ ++ [.lst ys]) (by simp [kindD]) (by simp)
      simp only [kindD] at h2
      have x0 : ∀ μ, ixS μ (rowD r) (.int 0) = .ok (.str r.nm) μ := fun _ => rfl
      have x1 : ∀ μ, ixS μ (rowD r) (.int 1) = .ok (.int r.lo) μ := fun _ => rfl
      have x2 : ∀ μ, ixS μ (rowD r) (.int 2) = .ok (.int r.hi) μ := fun _ => rfl
      rw [askOf_row]
      simp [envA, x0, x1, x2, h1, h2, askD, kindD])
    (by
      rw [List.map_map]
      exact lts_map _ _ _ fun r _ => by
        show D.lt _ (askD r) = true
        exact ask_lt _ _)
  rw [List.map_map] at h
  exact h
end K71

set_option linter.all false
set_option maxRecDepth 100000
namespace K71
open PySem L2 Co Tx
theorem abcde_ix (μ : Store) : ∀ j, j < 5 → ixS μ (.str "abcde") (.int (j : Nat)) = .ok (.str ⟨#[97 + j]⟩) μ := fun j hj => by
  have h : ∀ j, j < 5 → ("abcde" : Str).cps.toList[j]? = some (97 + j) := by decide +kernel
  rw [ixS_str _ _ _ (by decide +kernel), atI_nat', h j hj]
  rfl
theorem stA_succ (ns : List Int) (j : Nat) : stA ns (j + 1) = [.lst ((shs ns j).map shtD ++ [shtD (shOf ns j)]), .lst ((allR (shs ns j)).map rowD ++ rowsD ns (startOf ns j) (mOf ns j))] := by
  have e : shs ns (j + 1) = shs ns j ++ [shOf ns j] := map_range_succ _ _
  unfold stA
  rw [shs_all, shs_all, e, List.map_append, rowsD_eq]
  have e2 : rowsOf ns 0 (startOf ns (j + 1)) = rowsOf ns 0 (startOf ns j) ++ rowsOf ns (startOf ns j) (mOf ns j) := by
    show rowsOf ns 0 (startOf ns j + mOf ns j) = _
    rw [rowsOf_app, Nat.zero_add]
  rw [e2, List.map_append]
  rfl
theorem sheet_step (n : Nat) (ns : List Int) (j : Nat) (hj : j < 5) : evS P (run P (n + 2)) lIn (envA ns (some (.int (j : Nat))) (some (.lst (rowsD ns (startOf ns j) (mOf ns j))))) (stA ns j) =
    .ok (.nx, envA ns (some (.int (j : Nat))) (some (.lst (rowsD ns (startOf ns j) (mOf ns j))))) (stA ns (j + 1)) := by
  have h1 := lc_asks n ns (rowsOf ns (startOf ns j) (mOf ns j)) (some (.int (j : Nat))) (stA ns j) (by have := mOf_le ns j; simp [rowsOf]; omega)
  rw [← rowsD_eq] at h1
  have h2 := fun μ => sht_make (n + 1) (shNm j) ((rowsOf ns (startOf ns j) (mOf ns j)).map askD) μ (asks_lt _ _)
  have h3 := fun μ => abcde_ix μ j hj
  have z0 : sz (("sheet" : Str).length + (⟨#[97 + j]⟩ : Str).length) = true := by
    have : (("sheet" : Str).length) = 5 := by decide +kernel
    rw [this, len_one]
    rfl
  have hs := binS_adds (stA ns j) ("sheet" : Str) (⟨#[97 + j]⟩ : Str) z0
  have hsl := start_le ns j
  have hml := mOf_le ns j
  have z1 : sz (((shs ns j).map shtD).length + 1) = true := sz_of (by simp [shs_len]; omega)
  have z2 : sz (((allR (shs ns j)).map rowD).length + (rowsD ns (startOf ns j) (mOf ns j)).length) = true := sz_of (by simp [shs_n, rowsD]; omega)
  have e : Cell.lst ((shs ns j).map shtD ++ [shtD (shOf ns j)]) = Cell.lst ((shs ns j).map shtD ++ [.ins 9 [(0, .str (shNm j)), (8, .non), (9, .lst ((rowsOf ns (startOf ns j) (mOf ns j)).map askD)), (10, .lst [])]]) := rfl
  rw [stA_succ, e]
  simp only [lIn, b_law]
  simp only [envA] at h1 ⊢
  simp only [stA] at h1 hs ⊢
  simp [h3, hs]
  rw [h1]
  simp only [shNm] at h2
  simp only [List.length_map] at z1 z2
  simp [h2, z1, z2, shNm]
end K71

set_option linter.all false
set_option maxRecDepth 100000
namespace K71
open PySem L2 Co Tx
def SSh (ns : List Int) : List Sh := shs ns (nSh ns)
theorem shD_len (ns : List Int) (j : Nat) : (shD ns j).length = j := by simp [shD]
theorem sheets_loop (n : Nat) (ns : List Int) : forS (evS P (run P (n + 2)) lIn) (.tp (.cons (.nm 4) (.cons (.nm 5) .nil))) .enum [.lst (shD ns (nSh ns))] [4, 5] (envA ns none none) [.lst [], .lst []] = .ok (.nx, envA ns none none) (stA ns (nSh ns)) := by
  have h5 := nSh_le ns
  have h := forS_fn (body := evS P (run P (n + 2)) lIn) (tg := .tp (.cons (.nm 4) (.cons (.nm 5) .nil))) (clr := [4, 5]) (k := .enum) (ds := [.lst (shD ns (nSh ns))]) (xs := enumD 0 (shD ns (nSh ns))) (μ := [.lst [], .lst []]) (env := envA ns none none)
    (fun j => (envA ns none none, stA ns j)) (by simp) rfl (fun j hj => by simp) (fun j hj => by
      have hj' : j < nSh ns := by rw [enumD_len, shD_len] at hj; exact hj
      have hx : (shD ns (nSh ns))[j]'(by rw [shD_len]; exact hj') = .lst (rowsD ns (startOf ns j) (mOf ns j)) := by simp [shD]
      refine ⟨_, _, _, ?_, sheet_step n ns j (by omega), ?_⟩
      · rw [enum_at, hx]
        rfl
      · rw [tEnd_len (show (stA ns (j + 1)).length = (stA ns j).length from rfl)]
        rfl)
  rw [enumD_len, shD_len] at h
  exact h
/-! ### the book -/
def ansI (ns : List Int) (j : Nat) : Int := (rowOf ns j).lo + cellI ns (30 + j) % ((rowOf ns j).hi - (rowOf ns j).lo + 1)
theorem ans_ok (ns : List Int) (m j : Nat) (hj : j < (allR (shs ns m)).length) : (rowAt (shs ns m) j).lo ≤ ansI ns j ∧ ansI ns j ≤ (rowAt (shs ns m) j).hi := by
  rw [shs_n] at hj
  rw [shs_row ns m j hj]
  have h := (rowOf_ok ns j).2.1
  unfold ansI
  have a := Int.emod_nonneg (cellI ns (30 + j)) (b := (rowOf ns j).hi - (rowOf ns j).lo + 1) (by omega)
  have b := Int.emod_lt_of_pos (cellI ns (30 + j)) (b := (rowOf ns j).hi - (rowOf ns j).lo + 1) (by omega)
  omega
def bIn : CS := match b_law with
  | .seq _ (.seq _ (.seq _ (.seq _ (.seq _ (.seq _ (.seq _ (.seq _ (.seq _ (.seq _ (.seq _ (.seq _ (.seq _ (.seq (.for _ _ _ b _) _))))))))))))) => b
  | _ => .skip
def envB (ns : List Int) (p b l : Nat) (v2 v6 v8 v9 a d : Option D) : Co.Env := [some (.lst (ns.map D.int)), some (.lst (shD ns (nSh ns))), v2, some (.cell 1), none, none, v6, some (.cell p), v8, v9, some (.cell b), some (.cell l), a, d, none, none]
theorem book_step (n : Nat) (ns : List Int) (m p j : Nat) (μ : Store) (v2 v6 v8 v9 : Option D) (hj : j < (allR (shs ns m)).length) (hm : m ≤ 5) (hl : ns.length ≤ 63) :
    evS P (run P (n + 2)) bIn (envB ns p μ.length (μ.length + 1) v2 v6 v8 v9 (some (.int (j : Nat))) (some (rowD (rowAt (shs ns m) j)))) (μ ++ [.dic true (filL (shs ns m) (ansI ns) j), .lst (logL (shs ns m) (ansI ns) j)]) =
    .ok (.nx, envB ns p μ.length (μ.length + 1) v2 v6 v8 v9 (some (.int (j : Nat))) (some (rowD (rowAt (shs ns m) j)))) (μ ++ [.dic true (filL (shs ns m) (ansI ns) (j + 1)), .lst (logL (shs ns m) (ansI ns) (j + 1))]) := by
  have hr := shs_row ns m j (by rwa [shs_n] at hj)
  have hN : (allR (shs ns m)).length ≤ 20 := by rw [shs_n]; have := start_le ns m; omega
  have hc := fun μ => cell_runI ns (30 + j) (n + 1) μ (by omega) (by omega) hl
  rw [show (30 + (j : Int)).toNat = 30 + j by omega] at hc
  have x0 : ∀ μ r, ixS μ (rowD r) (.int 0) = .ok (.str r.nm) μ := fun _ _ => rfl
  have x1 : ∀ μ r, ixS μ (rowD r) (.int 1) = .ok (.int r.lo) μ := fun _ _ => rfl
  have x2 : ∀ μ r, ixS μ (rowD r) (.int 2) = .ok (.int r.hi) μ := fun _ _ => rfl
  have hok := (rowOf_ok ns j).2.1
  have hmod := fun μ => binS_mod μ (cellI ns (30 + j)) ((rowOf ns j).hi - (rowOf ns j).lo + 1) (by omega)
  have ea : (rowOf ns j).lo + cellI ns (30 + j) % ((rowOf ns j).hi - (rowOf ns j).lo + 1) = ansI ns j := rfl
  have l1 := logL_len (shs ns m) (ansI ns) j
  have l2 := filL_len (shs ns m) (ansI ns) j
  have z1 : sz ((filL (shs ns m) (ansI ns) j).length + 1) = true := sz_of (by omega)
  have z2 : sz (j + 1) = true := sz_of (by omega)
  have ef : filL (shs ns m) (ansI ns) (j + 1) = kput (filL (shs ns m) (ansI ns) j) (.tup [.str (rowOf ns j).nm, .str ""]) (.int (ansI ns j)) := by
    show kput _ (nmK (rowAt (shs ns m) j)) _ = _
    rw [hr]
    rfl
  have el : logL (shs ns m) (ansI ns) (j + 1) = logL (shs ns m) (ansI ns) j ++ [.tup [.str "ask", .str (rowOf ns j).nm, .str "", .int (ansI ns j)]] := by
    rw [logL_succ, hr]
    rfl
  have kf : ∀ l : List (D × D), kfind (kput l (.tup [.str (rowOf ns j).nm, .str ""]) (.int (ansI ns j))) (.tup [.str (rowOf ns j).nm, .str ""]) = some (.int (ansI ns j)) := fun l => by
    rw [kfind_put, if_pos rfl]
  rw [ef, el, hr]
  simp only [bIn, b_law, envB]
  simp [x0, x1, x2, hc, hmod, ea, z1, z2, l1, kf]
end K71

set_option linter.all false
set_option maxRecDepth 100000
namespace K71
open PySem L2 Co Tx
def dueOf : D → D
  | .tup [.str x, .int a, .int b] => dueD ⟨x, a, b⟩
  | d => d
theorem whole_adds (μ : Store) {r : Row} (h : RowOk r) : binS μ .add (.str "whole ") (.str (numS r.lo)) = .ok (.str (("whole " : Str) ++ numS r.lo)) μ ∧ binS μ .add (.str (("whole " : Str) ++ numS r.lo)) (.str " ") = .ok (.str (("whole " : Str) ++ numS r.lo ++ " ")) μ ∧
    binS μ .add (.str (("whole " : Str) ++ numS r.lo ++ " ")) (.str (numS r.hi)) = .ok (.str (toldS r)) μ := by
  obtain ⟨h1, h2⟩ := row_dig h
  have l1 := numS_len' h1
  have l2 := numS_len' h2
  have w6 : ("whole " : Str).length = 6 := by decide +kernel
  have w1 : (" " : Str).length = 1 := by decide +kernel
  exact ⟨binS_adds _ _ _ (sz_of (by omega)), binS_adds _ _ _ (sz_of (by rw [len_app]; omega)), binS_adds _ _ _ (sz_of (by rw [len_app, len_app]; omega))⟩
def dueE : CE := .tup (.acons (.lit (.str "ask")) (.acons (.ix (.var 13) (.lit (.int 0))) (.acons (.bin .add (.bin .add (.bin .add (.lit (.str "whole ")) (.bi .str (.acons (.ix (.var 13) (.lit (.int 1))) .anil))) (.lit (.str " "))) (.bi .str (.acons (.ix (.var 13) (.lit (.int 2))) .anil))) (.acons (.lit .non) .anil))))
theorem due_lc (n : Nat) (rs : List Row) (env : Co.Env) (μ : Store) (i : Nat) (hi : μ[i]? = some (.lst (rs.map rowD))) (hl : rs.length ≤ 1000) (hr : ∀ r ∈ rs, RowOk r) (he : 13 < env.length) :
    lcS (evE P (run P n) (.lit (.bl true))) (evE P (run P n) dueE) (.nm 13) [13] .seq [.cell i] true env μ = .ok (.lst (rs.map dueD)) μ := by
  have h := lcS_map (cond := evE P (run P n) (.lit (.bl true))) (elt := evE P (run P n) dueE) (tg := .nm 13) (own := [13]) (k := .seq) (ds := [.cell i]) (xs := rs.map rowD)
    (env := env) (μ := μ) dueOf (it_cl _ _ hi) (fun ys => stay_cl hi (get_app_lt hi _)) (by simp; omega)
    (fun x hx => by
      obtain ⟨r, hm, rfl⟩ := List.mem_map.mp hx
      obtain ⟨b1, b2, b3⟩ := hr r hm
      refine ⟨(wipeE env [13]).set 13 (some (rowD r)), ?_, fun ys => ⟨rfl, ?_⟩⟩
      · simp [wipeE]
      have hv : getV ((wipeE env [13]).set 13 (some (rowD r))) 13 = some (rowD r) := by simp [getV, wipeE, he]
      have x0 : ∀ μ, ixS μ (rowD r) (.int 0) = .ok (.str r.nm) μ := fun _ => rfl
      have x1 : ∀ μ, ixS μ (rowD r) (.int 1) = .ok (.int r.lo) μ := fun _ => rfl
      have x2 : ∀ μ, ixS μ (rowD r) (.int 2) = .ok (.int r.hi) μ := fun _ => rfl
      obtain ⟨a1, a2, a3⟩ := whole_adds (μ ++ [.lst ys]) ⟨b1, b2, b3⟩
      have s1 := str_run (μ ++ [.lst ys]) (i := r.lo) (by omega) (by omega)
      have s2 := str_run (μ ++ [.lst ys]) (i := r.hi) (by omega) (by omega)
      have e : dueOf (rowD r) = dueD r := rfl
      rw [e]
      generalize (wipeE env [13]).set 13 (some (rowD r)) = env1 at hv ⊢
      simp [dueE, hv, x0, x1, x2, s1, s2, a1, a2, a3, dueD])
    (by
      rw [List.map_map]
      exact lts_map _ _ _ fun r _ => by
        show D.lt _ (dueD r) = true
        simp [dueD])
  rw [List.map_map] at h
  exact h
theorem book_loop (n : Nat) (ns : List Int) (m p T : Nat) (μ : Store) (v2 v6 v8 v9 : Option D) (hm : m ≤ 5) (hl : ns.length ≤ 63) (hT : T ≤ (allR (shs ns m)).length) :
    forS (evS P (run P (n + 2)) bIn) (.tp (.cons (.nm 12) (.cons (.nm 13) .nil))) .enum [.lst (((allR (shs ns m)).map rowD).take T)] [12, 13] (envB ns p μ.length (μ.length + 1) v2 v6 v8 v9 none none) (μ ++ [.dic true [], .lst []]) =
    .ok (.nx, envB ns p μ.length (μ.length + 1) v2 v6 v8 v9 none none) (μ ++ [.dic true (filL (shs ns m) (ansI ns) T), .lst (logL (shs ns m) (ansI ns) T)]) := by
  have hlen : (((allR (shs ns m)).map rowD).take T).length = T := by simp [Nat.min_eq_left hT]
  have h := forS_fn (body := evS P (run P (n + 2)) bIn) (tg := .tp (.cons (.nm 12) (.cons (.nm 13) .nil))) (clr := [12, 13]) (k := .enum) (ds := [.lst (((allR (shs ns m)).map rowD).take T)]) (xs := enumD 0 (((allR (shs ns m)).map rowD).take T)) (μ := μ ++ [.dic true [], .lst []]) (env := envB ns p μ.length (μ.length + 1) v2 v6 v8 v9 none none)
    (fun j => (envB ns p μ.length (μ.length + 1) v2 v6 v8 v9 none none, μ ++ [.dic true (filL (shs ns m) (ansI ns) j), .lst (logL (shs ns m) (ansI ns) j)])) (by simp) rfl (fun j hj => by simp) (fun j hj => by
      have hj' : j < T := by rwa [enumD_len, hlen] at hj
      have hx : (((allR (shs ns m)).map rowD).take T)[j]'(by rw [hlen]; exact hj') = rowD (rowAt (shs ns m) j) := by
        rw [rowAt_eq _ j (by omega)]
        simp
      refine ⟨_, _, _, ?_, book_step n ns m p j μ v2 v6 v8 v9 (by omega) hm hl, ?_⟩
      · rw [enum_at, hx]
        rfl
      · rw [tEnd_len (by simp)]
        rfl)
  rw [enumD_len, hlen] at h
  exact h
end K71

set_option linter.all false
set_option maxRecDepth 100000
namespace K71
open PySem L2 Co Tx
theorem PS_g4 (μ0 : Store) (ss : List Sh) : (PS μ0 ss)[μ0.length + 4]? = some (.lst (pagesL ss)) := by
  have h := QS_len μ0 ss
  rw [PS_eq, ← h]
  simp
theorem pagesL_dat (ss : List Sh) : D.dats 59 (pagesL ss) = true := by
  unfold pagesL
  refine dats_map _ fun k _ => ?_
  rw [List.getD]
  cases e : (madeT ss)[(exI (k : Nat) ((allR ss).length : Nat)).toNat]? with
  | none => rfl
  | some x =>
    have hm := List.mem_of_getElem? e
    rw [madeT_get] at hm
    obtain ⟨y, hy, rfl⟩ := List.mem_map.mp hm
    show (turnD _ y).dat 59 = true
    rcases List.mem_cons.mp hy with h | h
    · subst h
      rfl
    · obtain ⟨r, b, rfl⟩ := mem_pages _ _ _ h
      rfl
theorem log_dat (ss : List Sh) (ans : Nat → Int) (T j : Nat) : D.dats 59 (logL ss ans T ++ [lastD ss j]) = true := by
  refine dats_app (dats_map _ fun k _ => rfl) ?_
  unfold lastD
  split <;> rfl
theorem law_run (ns : List Int) (r : Nat) (hl : ns.length ≤ 63) : ∃ μ, run P (r + 3 * nSh ns + 51) f_law [.lst (ns.map D.int)] [] = .ok (.bl true) μ := by
  generalize hq : r + 3 * nSh ns = q
  have h5 := nSh_le ns
  have hst := start_le ns (nSh ns)
  have hN := shs_n ns (nSh ns)
  have hsl : (SSh ns).length = nSh ns := shs_len ns _
  have hA : (allR (SSh ns)).length ≤ 20 := by
    show (allR (shs ns (nSh ns))).length ≤ 20
    omega
  have hR : ∀ r ∈ allR (SSh ns), RowOk r := shs_ok ns _
  refine ⟨[], ?_⟩
  rw [run_def (F := ⟨1, 16, b_law⟩) rfl rfl]
  -- the sheets
  have a1 : run P (q + 50) f_L_sheets [.lst (ns.map D.int)] [] = .ok (.lst (shD ns (nSh ns))) [] := sheets_run ns (q + 47) [] hl
  have a2 := sheets_loop (q + 48) ns
  simp only [lIn, b_law, envA] at a2
  simp only [stA] at a2
  have a3 : ∀ μ, makeS P (run P (q + 50)) 10 true [.str "paper", .lst ((SSh ns).map shtD), .lst []] μ = .ok (papD (SSh ns)) μ := fun μ => pap_make (q + 49) _ _ (shts_lt _ _)
  have a4 : ∀ μ, run P (q + 50) 65 [papD (SSh ns)] μ = .ok (.cell (μ.length + 4)) (PS μ (SSh ns)) := fun μ => pages_run (q + 46) (r + 46) (SSh ns) μ (by rw [hsl]; omega) (by rw [hsl]; omega) (by omega) hR
  generalize hμ0 : ([.dead, .lst ((allR (SSh ns)).map rowD)] : Store) = μ0 at *
  have l0 : μ0.length = 2 := by rw [← hμ0]; rfl
  simp [b_law, a1]
  rw [a2]
  simp
  rw [show List.map shtD (shs ns (nSh ns)) = (SSh ns).map shtD from rfl, show (allR (shs ns (nSh ns))).map rowD = (allR (SSh ns)).map rowD from rfl, hμ0]
  simp [a3, a4, l0]
  -- the pages
  have gP6 : (PS μ0 (SSh ns))[6]? = some (.lst (pagesL (SSh ns))) := by
    rw [PS_eq]
    have h := QS_len μ0 (SSh ns)
    rw [l0] at h
    have : (QS μ0 (SSh ns) ++ [Cell.lst (pagesL (SSh ns))])[(QS μ0 (SSh ns)).length]? = some (.lst (pagesL (SSh ns))) := by simp
    rw [h] at this
    exact this
  have gP1 : (PS μ0 (SSh ns))[1]? = some (.lst ((allR (SSh ns)).map rowD)) := by
    have h : μ0[1]? = some (.lst ((allR (SSh ns)).map rowD)) := by rw [← hμ0]; rfl
    exact get_app_lt h _
  have lP : (PS μ0 (SSh ns)).length = 7 := by
    rw [PS_eq, List.length_append, QS_len, l0]
    rfl
  generalize PS μ0 (SSh ns) = μP at gP6 gP1 lP ⊢
  have hpl := pagesL_len (SSh ns)
  have hil : isiS P.sub μP (.cell 6) [.list] = some true := by
    rw [isiS_eq (k := .ty "list") _ (by simp [gP6]) rfl]
    rfl
  have b1 : ∀ env : Co.Env, 13 < env.length → _ := fun env he => due_lc (q + 50) (allR (SSh ns)) env μP 1 gP1 (by omega) hR he
  have b2 := told_pages (SSh ns) μP 6 gP6 (by omega) (q + 49)
  have e1 : eqS μP (.lst ((allR (SSh ns)).map dueD)) (.lst ((allR (SSh ns)).map dueD)) = some true := eqS_same rfl rfl (by
    show D.dats 59 _ = true
    exact dats_map _ fun x _ => rfl)
  have c7 := fun μ => cell_runI ns 7 (q + 49) μ (by omega) (by omega) hl
  have c24 : ∀ μ, binS μ .mod (.int (cellI ns 7)) (.int 24) = .ok (.int (cellI ns 7 % 24)) μ := fun μ => binS_mod _ _ _ (by omega)
  have hw : walkedC μP .seq [.cell 1] = none := walk_cl _ _ gP1
  simp [hil, gP6, gP1, hpl, hw]
  simp only [dueE] at b1
  rw [b1 _ (by simp)]
  obtain ⟨St, hSt⟩ : ∃ St : Nat, cellI ns 7 % 24 = (St : Int) := ⟨(cellI ns 7 % 24).toNat, by omega⟩
  simp [b2, e1, c7, c24, hSt]
  -- the book
  obtain ⟨T, hT⟩ : ∃ T, T = min St (allR (SSh ns)).length := ⟨_, rfl⟩
  have tk : ((allR (SSh ns)).map rowD).take St = ((allR (SSh ns)).map rowD).take T := by
    rw [hT]
    by_cases h : St ≤ (allR (SSh ns)).length
    · rw [Nat.min_eq_left h]
    · rw [Nat.min_eq_right (by omega), List.take_of_length_le (by simp; omega), List.take_of_length_le (by simp)]
  have gx : ∀ t, (μP ++ t)[1]? = some (.lst ((allR (SSh ns)).map rowD)) := fun t => get_app_lt gP1 t
  have sl1 : ∀ t, slS (μP ++ t) (.cell 1) none (some (St : Int)) = .ok (.lst (((allR (SSh ns)).map rowD).take T)) (μP ++ t) := fun t => by
    rw [slS_cl (gx t), cutD_take, tk]
  have b3 := book_loop (q + 48) ns (nSh ns) 6 T μP (some (.lst ((SSh ns).map shtD))) (some (papD (SSh ns))) (some (.lst ((allR (SSh ns)).map dueD))) (some (.int St)) h5 hl (by
    show T ≤ (allR (SSh ns)).length
    omega)
  simp only [bIn, b_law, envB, lP] at b3
  simp [lP, sl1]
  rw [show shs ns (nSh ns) = SSh ns from rfl] at b3
  rw [b3]
  have hTN : T ≤ (allR (SSh ns)).length := by omega
  obtain ⟨μS, hμS⟩ : ∃ μS, μS = μP ++ [.dic true (filL (SSh ns) (ansI ns) T), .lst (logL (SSh ns) (ansI ns) T)] := ⟨_, rfl⟩
  have s6 : μS[6]? = some (.lst (pagesL (SSh ns))) := by rw [hμS]; exact get_app_lt gP6 _
  have s1 : μS[1]? = some (.lst ((allR (SSh ns)).map rowD)) := by rw [hμS]; exact get_app_lt gP1 _
  have s7 : μS[7]? = some (.dic true (filL (SSh ns) (ansI ns) T)) := by rw [hμS, ← lP]; simp
  have s8 : μS[8]? = some (.lst (logL (SSh ns) (ansI ns) T)) := by
    rw [hμS, show 8 = μP.length + 1 by omega]
    simp
  have lS : μS.length = 9 := by
    rw [hμS]
    simp [lP]
  rw [← hμS]
  have r1 := run_run (SSh ns) (ansI ns) μS 6 7 T s6 s7 hTN (by omega) hR (shs_uniq ns _ h5) (ans_ok ns _) (q + 43)
  rw [lS] at r1
  have r10 := RU_l μS 7 (logL (SSh ns) (ansI ns) T ++ [lastD (SSh ns) T]) (filL (SSh ns) (ansI ns) T) (talL (SSh ns) (ansI ns) T)
  rw [lS] at r10
  have r6 : (RU μS 7 (logL (SSh ns) (ansI ns) T ++ [lastD (SSh ns) T]) (filL (SSh ns) (ansI ns) T) (talL (SSh ns) (ansI ns) T))[6]? = some (.lst (pagesL (SSh ns))) := get_app_lt s6 _
  have r8 : (RU μS 7 (logL (SSh ns) (ansI ns) T ++ [lastD (SSh ns) T]) (filL (SSh ns) (ansI ns) T) (talL (SSh ns) (ansI ns) T))[8]? = some (.lst (logL (SSh ns) (ansI ns) T)) := get_app_lt s8 _
  generalize RU μS 7 (logL (SSh ns) (ansI ns) T ++ [lastD (SSh ns) T]) (filL (SSh ns) (ansI ns) T) (talL (SSh ns) (ansI ns) T) = μR at r1 r10 r6 r8
  have lL := logL_len (SSh ns) (ansI ns) T
  have d1 : binS μR .add (.cell 8) (.lst [lastD (SSh ns) T]) = .ok (.lst (logL (SSh ns) (ansI ns) T ++ [lastD (SSh ns) T])) μR := binS_addcl r8 (sz_of (by rw [lL]; simp; omega))
  have d2 : eqS μR (.cell 10) (.lst (logL (SSh ns) (ansI ns) T ++ [lastD (SSh ns) T])) = some true := eqS_same (still_cl r10) rfl (log_dat _ _ _ _)
  have d3 : eqS μR (.cell 6) (.lst (pagesL (SSh ns))) = some true := eqS_same (still_cl r6) rfl (pagesL_dat _)
  have d4 := bmT_clear r6
  have d5 := bm_clr r6
  have d6 : ∀ μ, eqS (PS μ (SSh ns)) (.cell (μ.length + 4)) (.lst (pagesL (SSh ns))) = some true := fun μ => eqS_same (still_cl (PS_g4 μ _)) rfl (pagesL_dat _)
  have d6 := d6 (μR.set 6 (.lst []))
  rw [List.length_set] at d6
  have d7 := bi_listF s6
  by_cases hc : St < (allR (SSh ns)).length
  · have hTS : T = St := by omega
    have el : lastD (SSh ns) T = .tup [.str "open", .str (rowAt (SSh ns) T).nm, .str ""] := if_pos (by omega)
    have x1 : ((allR (SSh ns)).map rowD)[St]? = some (rowD (rowAt (SSh ns) T)) := by
      rw [hTS, rowAt_eq _ _ hc]
      simp [hc]
    have x0 : ∀ μ r, ixS μ (rowD r) (.int 0) = .ok (.str r.nm) μ := fun _ _ => rfl
    have hd : decide ((St : Int) < (allR (SSh ns)).length) = true := decide_eq_true (by omega)
    rw [el] at d1 d2
    have x2 : ixS μS (.cell 1) (.int (St : Nat)) = .ok (rowD (rowAt (SSh ns) T)) μS := by
      rw [ixS_cl s1, atI_nat', x1]
      rfl
    have x3 : biS μS .len [.cell 1] = .ok (.int (allR (SSh ns)).length) μS := by
      rw [lenC s1]
      simp
    simp [x0, hc, -ixS_v, x2, -len_v, x3, d7, r1, d1, d2, d3, d4, d5, a4, d6]
    simp [leave]
  · have el : lastD (SSh ns) T = endD := if_neg (by omega)
    have x3 : biS μS .len [.cell 1] = .ok (.int (allR (SSh ns)).length) μS := by
      rw [lenC s1]
      simp
    rw [el] at d1 d2
    simp only [endD] at d1 d2
    simp [hc, -len_v, x3, d7, r1, d1, d2, d3, d4, d5, a4, d6]
    simp [leave]
end K71

set_option linter.all false
set_option maxRecDepth 100000
namespace Hd
open PySem L2 Co Tx
theorem hrun (ns : List Int) (h : ns.length ≤ 63) : ∃ μ, Co.run P 67 f_law [.lst (ns.map D.int)] [] = .ok (.bl true) μ := by
  have h5 := K71.nSh_le ns
  have e := K71.law_run ns (16 - 3 * K71.nSh ns) h
  rw [show 16 - 3 * K71.nSh ns + 3 * K71.nSh ns + 51 = 67 by omega] at e
  exact e
end Hd

set_option Elab.async false
set_option linter.all false
set_option maxRecDepth 100000
set_option maxHeartbeats 0
namespace Tx
open PySem L2 Co
def fnm0 : List (Str × Nat) := [("is_whole", 1), ("is_name", 2), ("are_figures", 3), ("number_of", 4), ("hundredths", 16), ("whole_of", 29), ("money_of", 30), ("kind_of", 31), ("kinds_of", 37), ("put_in", 38), ("put_together", 39), ("targets_of", 62), ("exchanged", 63), ("turned", 64), ("pages_of", 65), ("compares", 66), ("run", 75), ("_law_cell", 76), ("_law_name", 77), ("_law_sheets", 78), ("_law_told", 79), ("law", 80)]
def fnm : List (Str × Nat) := fnm0
def cnm : List (Str × Nat) := [("Kind", 0), ("YesNo", 1), ("Whole", 2), ("Money", 3), ("Pick", 4), ("Names", 5), ("Row", 6), ("Ask", 7), ("Check", 8), ("Sheet", 9), ("Paper", 10), ("Saying", 11), ("Is", 12), ("Not", 13), ("Both", 14), ("Either", 15), ("Maker", 16), ("Run", 17), ("AskError", 18), ("NoNumber", 19), ("NoAnswer", 20), ("NoKind", 21), ("WrongKind", 22)]
def gnm : List (Str × Nat) := [("LETTERS", 0), ("FIGURES", 1), ("NO_NAMES", 2), ("LONGEST_NAME", 3)]
def mnm : List Str := ["shown", "fits", "rank", "settled", "put", "saying_pages", "atom_page", "check_pages", "told", "aim", "sheet_start", "begin", "way_pages", "row_pages", "thing_of", "ask", "compare", "total", "more", "tell", "step"]
def fld : List Str := ["name", "low", "high", "some", "kind", "when", "test", "firm", "each", "rows", "ways", "sheets", "totals", "word", "place", "one", "other", "paper", "kinds", "homes", "made", "starts", "number", "how", "book", "log", "filled", "tallied", "named", "thing"]
def tx : Co.Tx := ⟨fnm, cnm, gnm, mnm, fld⟩
def top (i : Nat) : Stmt := PySem.Challenge.pw_askpaper_k71_pages_of_plain_papers.main.body.getD i (.Pass ⟨0, 0, 0, 0⟩)
def e_WrongKind___init__ : List D := []
def d_WrongKind___init__ : He.DefD := ⟨("WrongKind", some "__init__"), "__init__", "WrongKind.__init__", defArgs (inClass (top 6) 0), defBody (inClass (top 6) 0), defScope (inClass (top 6) 0), e_WrongKind___init__.map dDv, []⟩
def n_WrongKind___init__ : List Str := ["self", "name"]
def p_WrongKind___init__ : List Str := ["self", "name"]
def e_is_whole : List D := []
def d_is_whole : He.DefD := ⟨("is_whole", none), "is_whole", "is_whole", defArgs (top 12), defBody (top 12), defScope (top 12), e_is_whole.map dDv, []⟩
def n_is_whole : List Str := ["thing"]
def p_is_whole : List Str := ["thing"]
def e_is_name : List D := []
def d_is_name : He.DefD := ⟨("is_name", none), "is_name", "is_name", defArgs (top 13), defBody (top 13), defScope (top 13), e_is_name.map dDv, []⟩
def n_is_name : List Str := ["thing", "sign"]
def p_is_name : List Str := ["thing"]
def e_are_figures : List D := [(.int 60)]
def d_are_figures : He.DefD := ⟨("are_figures", none), "are_figures", "are_figures", defArgs (top 14), defBody (top 14), defScope (top 14), e_are_figures.map dDv, []⟩
def n_are_figures : List Str := ["text", "most", "sign"]
def p_are_figures : List Str := ["text", "most"]
def e_number_of : List D := [(.int 60)]
def d_number_of : He.DefD := ⟨("number_of", none), "number_of", "number_of", defArgs (top 15), defBody (top 15), defScope (top 15), e_number_of.map dDv, []⟩
def n_number_of : List Str := ["text", "most", "figures"]
def p_number_of : List Str := ["text", "most"]
def e_Kind___init__ : List D := []
def d_Kind___init__ : He.DefD := ⟨("Kind", some "__init__"), "__init__", "Kind.__init__", defArgs (inClass (top 17) 0), defBody (inClass (top 17) 0), defScope (inClass (top 17) 0), e_Kind___init__.map dDv, []⟩
def n_Kind___init__ : List Str := ["self", "low", "high"]
def p_Kind___init__ : List Str := ["self", "low", "high"]
def e_Kind_fits : List D := []
def d_Kind_fits : He.DefD := ⟨("Kind", some "fits"), "fits", "Kind.fits", defArgs (inClass (top 17) 1), defBody (inClass (top 17) 1), defScope (inClass (top 17) 1), e_Kind_fits.map dDv, []⟩
def n_Kind_fits : List Str := ["self", "thing"]
def p_Kind_fits : List Str := ["self", "thing"]
def e_YesNo___init__ : List D := []
def d_YesNo___init__ : He.DefD := ⟨("YesNo", some "__init__"), "__init__", "YesNo.__init__", defArgs (inClass (top 18) 0), defBody (inClass (top 18) 0), defScope (inClass (top 18) 0), e_YesNo___init__.map dDv, []⟩
def n_YesNo___init__ : List Str := ["self"]
def p_YesNo___init__ : List Str := ["self"]
def e_YesNo_fits : List D := []
def d_YesNo_fits : He.DefD := ⟨("YesNo", some "fits"), "fits", "YesNo.fits", defArgs (inClass (top 18) 1), defBody (inClass (top 18) 1), defScope (inClass (top 18) 1), e_YesNo_fits.map dDv, []⟩
def n_YesNo_fits : List Str := ["self", "thing"]
def p_YesNo_fits : List Str := ["self", "thing"]
def e_YesNo_shown : List D := []
def d_YesNo_shown : He.DefD := ⟨("YesNo", some "shown"), "shown", "YesNo.shown", defArgs (inClass (top 18) 3), defBody (inClass (top 18) 3), defScope (inClass (top 18) 3), e_YesNo_shown.map dDv, []⟩
def n_YesNo_shown : List Str := ["self", "answer"]
def p_YesNo_shown : List Str := ["self", "answer"]
def e_YesNo_rank : List D := []
def d_YesNo_rank : He.DefD := ⟨("YesNo", some "rank"), "rank", "YesNo.rank", defArgs (inClass (top 18) 4), defBody (inClass (top 18) 4), defScope (inClass (top 18) 4), e_YesNo_rank.map dDv, []⟩
def n_YesNo_rank : List Str := ["self", "answer"]
def p_YesNo_rank : List Str := ["self", "answer"]
def e_YesNo_told : List D := []
def d_YesNo_told : He.DefD := ⟨("YesNo", some "told"), "told", "YesNo.told", defArgs (inClass (top 18) 6), defBody (inClass (top 18) 6), defScope (inClass (top 18) 6), e_YesNo_told.map dDv, []⟩
def n_YesNo_told : List Str := ["self"]
def p_YesNo_told : List Str := ["self"]
def e_Whole_fits : List D := []
def d_Whole_fits : He.DefD := ⟨("Whole", some "fits"), "fits", "Whole.fits", defArgs (inClass (top 19) 0), defBody (inClass (top 19) 0), defScope (inClass (top 19) 0), e_Whole_fits.map dDv, []⟩
def n_Whole_fits : List Str := ["self", "thing"]
def p_Whole_fits : List Str := ["self", "thing"]
def e_Whole_shown : List D := []
def d_Whole_shown : He.DefD := ⟨("Whole", some "shown"), "shown", "Whole.shown", defArgs (inClass (top 19) 2), defBody (inClass (top 19) 2), defScope (inClass (top 19) 2), e_Whole_shown.map dDv, []⟩
def n_Whole_shown : List Str := ["self", "answer"]
def p_Whole_shown : List Str := ["self", "answer"]
def e_Whole_rank : List D := []
def d_Whole_rank : He.DefD := ⟨("Whole", some "rank"), "rank", "Whole.rank", defArgs (inClass (top 19) 3), defBody (inClass (top 19) 3), defScope (inClass (top 19) 3), e_Whole_rank.map dDv, []⟩
def n_Whole_rank : List Str := ["self", "answer"]
def p_Whole_rank : List Str := ["self", "answer"]
def e_Whole_told : List D := []
def d_Whole_told : He.DefD := ⟨("Whole", some "told"), "told", "Whole.told", defArgs (inClass (top 19) 5), defBody (inClass (top 19) 5), defScope (inClass (top 19) 5), e_Whole_told.map dDv, []⟩
def n_Whole_told : List Str := ["self"]
def p_Whole_told : List Str := ["self"]
def e_hundredths : List D := []
def d_hundredths : He.DefD := ⟨("hundredths", none), "hundredths", "hundredths", defArgs (top 20), defBody (top 20), defScope (top 20), e_hundredths.map dDv, []⟩
def n_hundredths : List Str := ["text", "size", "ahead", "point", "behind", "amount"]
def p_hundredths : List Str := ["text"]
def e_Money_shown : List D := []
def d_Money_shown : He.DefD := ⟨("Money", some "shown"), "shown", "Money.shown", defArgs (inClass (top 21) 1), defBody (inClass (top 21) 1), defScope (inClass (top 21) 1), e_Money_shown.map dDv, []⟩
def n_Money_shown : List Str := ["self", "answer", "ahead", "behind", "size"]
def p_Money_shown : List Str := ["self", "answer"]
def e_Money_told : List D := []
def d_Money_told : He.DefD := ⟨("Money", some "told"), "told", "Money.told", defArgs (inClass (top 21) 2), defBody (inClass (top 21) 2), defScope (inClass (top 21) 2), e_Money_told.map dDv, []⟩
def n_Money_told : List Str := ["self"]
def p_Money_told : List Str := ["self"]
def e_Pick___init__ : List D := []
def d_Pick___init__ : He.DefD := ⟨("Pick", some "__init__"), "__init__", "Pick.__init__", defArgs (inClass (top 22) 0), defBody (inClass (top 22) 0), defScope (inClass (top 22) 0), e_Pick___init__.map dDv, []⟩
def n_Pick___init__ : List Str := ["self", "words"]
def p_Pick___init__ : List Str := ["self", "words"]
def e_Pick_fits : List D := []
def d_Pick_fits : He.DefD := ⟨("Pick", some "fits"), "fits", "Pick.fits", defArgs (inClass (top 22) 1), defBody (inClass (top 22) 1), defScope (inClass (top 22) 1), e_Pick_fits.map dDv, []⟩
def n_Pick_fits : List Str := ["self", "thing"]
def p_Pick_fits : List Str := ["self", "thing"]
def e_Pick_shown : List D := []
def d_Pick_shown : He.DefD := ⟨("Pick", some "shown"), "shown", "Pick.shown", defArgs (inClass (top 22) 3), defBody (inClass (top 22) 3), defScope (inClass (top 22) 3), e_Pick_shown.map dDv, []⟩
def n_Pick_shown : List Str := ["self", "answer"]
def p_Pick_shown : List Str := ["self", "answer"]
def e_Pick_rank : List D := []
def d_Pick_rank : He.DefD := ⟨("Pick", some "rank"), "rank", "Pick.rank", defArgs (inClass (top 22) 4), defBody (inClass (top 22) 4), defScope (inClass (top 22) 4), e_Pick_rank.map dDv, []⟩
def n_Pick_rank : List Str := ["self", "answer"]
def p_Pick_rank : List Str := ["self", "answer"]
def e_Pick_told : List D := []
def d_Pick_told : He.DefD := ⟨("Pick", some "told"), "told", "Pick.told", defArgs (inClass (top 22) 6), defBody (inClass (top 22) 6), defScope (inClass (top 22) 6), e_Pick_told.map dDv, []⟩
def n_Pick_told : List Str := ["self"]
def p_Pick_told : List Str := ["self"]
def e_Names___init__ : List D := [(.int 3)]
def d_Names___init__ : He.DefD := ⟨("Names", some "__init__"), "__init__", "Names.__init__", defArgs (inClass (top 23) 0), defBody (inClass (top 23) 0), defScope (inClass (top 23) 0), e_Names___init__.map dDv, []⟩
def n_Names___init__ : List Str := ["self", "most"]
def p_Names___init__ : List Str := ["self", "most"]
def e_Names_fits : List D := []
def d_Names_fits : He.DefD := ⟨("Names", some "fits"), "fits", "Names.fits", defArgs (inClass (top 23) 1), defBody (inClass (top 23) 1), defScope (inClass (top 23) 1), e_Names_fits.map dDv, []⟩
def n_Names_fits : List Str := ["self", "thing", "name"]
def p_Names_fits : List Str := ["self", "thing"]
def e_Names_shown : List D := []
def d_Names_shown : He.DefD := ⟨("Names", some "shown"), "shown", "Names.shown", defArgs (inClass (top 23) 3), defBody (inClass (top 23) 3), defScope (inClass (top 23) 3), e_Names_shown.map dDv, []⟩
def n_Names_shown : List Str := ["self", "answer"]
def p_Names_shown : List Str := ["self", "answer"]
def e_Names_rank : List D := []
def d_Names_rank : He.DefD := ⟨("Names", some "rank"), "rank", "Names.rank", defArgs (inClass (top 23) 4), defBody (inClass (top 23) 4), defScope (inClass (top 23) 4), e_Names_rank.map dDv, []⟩
def n_Names_rank : List Str := ["self", "answer"]
def p_Names_rank : List Str := ["self", "answer"]
def e_Names_told : List D := []
def d_Names_told : He.DefD := ⟨("Names", some "told"), "told", "Names.told", defArgs (inClass (top 23) 6), defBody (inClass (top 23) 6), defScope (inClass (top 23) 6), e_Names_told.map dDv, []⟩
def n_Names_told : List Str := ["self"]
def p_Names_told : List Str := ["self"]
def e_whole_of : List D := []
def d_whole_of : He.DefD := ⟨("whole_of", none), "whole_of", "whole_of", defArgs (top 24), defBody (top 24), defScope (top 24), e_whole_of.map dDv, []⟩
def n_whole_of : List Str := ["words", "low", "high"]
def p_whole_of : List Str := ["words"]
def e_money_of : List D := []
def d_money_of : He.DefD := ⟨("money_of", none), "money_of", "money_of", defArgs (top 25), defBody (top 25), defScope (top 25), e_money_of.map dDv, []⟩
def n_money_of : List Str := ["words", "low", "high"]
def p_money_of : List Str := ["words"]
def e_kind_of : List D := []
def d_kind_of : He.DefD := ⟨("kind_of", none), "kind_of", "kind_of", defArgs (top 26), defBody (top 26), defScope (top 26), e_kind_of.map dDv, []⟩
def n_kind_of : List Str := ["text", "words", "rest", "word"]
def p_kind_of : List Str := ["text"]
def e_Row___init__ : List D := []
def d_Row___init__ : He.DefD := ⟨("Row", some "__init__"), "__init__", "Row.__init__", defArgs (inClass (top 28) 0), defBody (inClass (top 28) 0), defScope (inClass (top 28) 0), e_Row___init__.map dDv, []⟩
def n_Row___init__ : List Str := ["self", "name"]
def p_Row___init__ : List Str := ["self", "name"]
def e_Ask___init__ : List D := [.non]
def d_Ask___init__ : He.DefD := ⟨("Ask", some "__init__"), "__init__", "Ask.__init__", defArgs (inClass (top 29) 0), defBody (inClass (top 29) 0), defScope (inClass (top 29) 0), e_Ask___init__.map dDv, []⟩
def n_Ask___init__ : List Str := ["self", "name", "kind", "when"]
def p_Ask___init__ : List Str := ["self", "name", "kind", "when"]
def e_Check___init__ : List D := [(.bl true)]
def d_Check___init__ : He.DefD := ⟨("Check", some "__init__"), "__init__", "Check.__init__", defArgs (inClass (top 30) 0), defBody (inClass (top 30) 0), defScope (inClass (top 30) 0), e_Check___init__.map dDv, []⟩
def n_Check___init__ : List Str := ["self", "name", "test", "firm"]
def p_Check___init__ : List Str := ["self", "name", "test", "firm"]
def e_Sheet___init__ : List D := []
def d_Sheet___init__ : He.DefD := ⟨("Sheet", some "__init__"), "__init__", "Sheet.__init__", defArgs (inClass (top 31) 0), defBody (inClass (top 31) 0), defScope (inClass (top 31) 0), e_Sheet___init__.map dDv, []⟩
def n_Sheet___init__ : List Str := ["self", "name", "each", "rows", "ways"]
def p_Sheet___init__ : List Str := ["self", "name", "each", "rows", "ways"]
def e_Paper___init__ : List D := []
def d_Paper___init__ : He.DefD := ⟨("Paper", some "__init__"), "__init__", "Paper.__init__", defArgs (inClass (top 32) 0), defBody (inClass (top 32) 0), defScope (inClass (top 32) 0), e_Paper___init__.map dDv, []⟩
def n_Paper___init__ : List Str := ["self", "name", "sheets", "totals"]
def p_Paper___init__ : List Str := ["self", "name", "sheets", "totals"]
def e_kinds_of : List D := []
def d_kinds_of : He.DefD := ⟨("kinds_of", none), "kinds_of", "kinds_of", defArgs (top 34), defBody (top 34), defScope (top 34), e_kinds_of.map dDv, []⟩
def n_kinds_of : List Str := ["paper", "kinds", "sheet", "row"]
def p_kinds_of : List Str := ["paper"]
def e_put_in : List D := []
def d_put_in : He.DefD := ⟨("put_in", none), "put_in", "put_in", defArgs (top 35), defBody (top 35), defScope (top 35), e_put_in.map dDv, []⟩
def n_put_in : List Str := ["totals", "name", "known", "times", "part", "terms", "plus", "question", "many"]
def p_put_in : List Str := ["totals", "name", "known"]
def e_put_together : List D := []
def d_put_together : He.DefD := ⟨("put_together", none), "put_together", "put_together", defArgs (top 36), defBody (top 36), defScope (top 36), e_put_together.map dDv, []⟩
def n_put_together : List Str := ["paper", "name", "known", "terms", "plus", "question", "many"]
def p_put_together : List Str := ["paper", "name"]
def e_Is___init__ : List D := [.non]
def d_Is___init__ : He.DefD := ⟨("Is", some "__init__"), "__init__", "Is.__init__", defArgs (inClass (top 39) 0), defBody (inClass (top 39) 0), defScope (inClass (top 39) 0), e_Is___init__.map dDv, []⟩
def n_Is___init__ : List Str := ["self", "name", "word", "place"]
def p_Is___init__ : List Str := ["self", "name", "word", "place"]
def e_Is_shown : List D := []
def d_Is_shown : He.DefD := ⟨("Is", some "shown"), "shown", "Is.shown", defArgs (inClass (top 39) 1), defBody (inClass (top 39) 1), defScope (inClass (top 39) 1), e_Is_shown.map dDv, []⟩
def n_Is_shown : List Str := ["self"]
def p_Is_shown : List Str := ["self"]
def e_Is_settled : List D := []
def d_Is_settled : He.DefD := ⟨("Is", some "settled"), "settled", "Is.settled", defArgs (inClass (top 39) 2), defBody (inClass (top 39) 2), defScope (inClass (top 39) 2), e_Is_settled.map dDv, []⟩
def n_Is_settled : List Str := ["self", "kinds", "kind"]
def p_Is_settled : List Str := ["self", "kinds"]
def e_Not___init__ : List D := []
def d_Not___init__ : He.DefD := ⟨("Not", some "__init__"), "__init__", "Not.__init__", defArgs (inClass (top 40) 0), defBody (inClass (top 40) 0), defScope (inClass (top 40) 0), e_Not___init__.map dDv, []⟩
def n_Not___init__ : List Str := ["self", "test"]
def p_Not___init__ : List Str := ["self", "test"]
def e_Not_shown : List D := []
def d_Not_shown : He.DefD := ⟨("Not", some "shown"), "shown", "Not.shown", defArgs (inClass (top 40) 1), defBody (inClass (top 40) 1), defScope (inClass (top 40) 1), e_Not_shown.map dDv, []⟩
def n_Not_shown : List Str := ["self"]
def p_Not_shown : List Str := ["self"]
def e_Not_settled : List D := []
def d_Not_settled : He.DefD := ⟨("Not", some "settled"), "settled", "Not.settled", defArgs (inClass (top 40) 3), defBody (inClass (top 40) 3), defScope (inClass (top 40) 3), e_Not_settled.map dDv, []⟩
def n_Not_settled : List Str := ["self", "kinds"]
def p_Not_settled : List Str := ["self", "kinds"]
def e_Both___init__ : List D := []
def d_Both___init__ : He.DefD := ⟨("Both", some "__init__"), "__init__", "Both.__init__", defArgs (inClass (top 41) 0), defBody (inClass (top 41) 0), defScope (inClass (top 41) 0), e_Both___init__.map dDv, []⟩
def n_Both___init__ : List Str := ["self", "one", "other"]
def p_Both___init__ : List Str := ["self", "one", "other"]
def e_Both_shown : List D := []
def d_Both_shown : He.DefD := ⟨("Both", some "shown"), "shown", "Both.shown", defArgs (inClass (top 41) 1), defBody (inClass (top 41) 1), defScope (inClass (top 41) 1), e_Both_shown.map dDv, []⟩
def n_Both_shown : List Str := ["self"]
def p_Both_shown : List Str := ["self"]
def e_Both_settled : List D := []
def d_Both_settled : He.DefD := ⟨("Both", some "settled"), "settled", "Both.settled", defArgs (inClass (top 41) 3), defBody (inClass (top 41) 3), defScope (inClass (top 41) 3), e_Both_settled.map dDv, []⟩
def n_Both_settled : List Str := ["self", "kinds", "one"]
def p_Both_settled : List Str := ["self", "kinds"]
def e_Either___init__ : List D := []
def d_Either___init__ : He.DefD := ⟨("Either", some "__init__"), "__init__", "Either.__init__", defArgs (inClass (top 42) 0), defBody (inClass (top 42) 0), defScope (inClass (top 42) 0), e_Either___init__.map dDv, []⟩
def n_Either___init__ : List Str := ["self", "one", "other"]
def p_Either___init__ : List Str := ["self", "one", "other"]
def e_Either_shown : List D := []
def d_Either_shown : He.DefD := ⟨("Either", some "shown"), "shown", "Either.shown", defArgs (inClass (top 42) 1), defBody (inClass (top 42) 1), defScope (inClass (top 42) 1), e_Either_shown.map dDv, []⟩
def n_Either_shown : List Str := ["self"]
def p_Either_shown : List Str := ["self"]
def e_Either_settled : List D := []
def d_Either_settled : He.DefD := ⟨("Either", some "settled"), "settled", "Either.settled", defArgs (inClass (top 42) 3), defBody (inClass (top 42) 3), defScope (inClass (top 42) 3), e_Either_settled.map dDv, []⟩
def n_Either_settled : List Str := ["self", "kinds", "one"]
def p_Either_settled : List Str := ["self", "kinds"]
def e_Maker___init__ : List D := []
def d_Maker___init__ : He.DefD := ⟨("Maker", some "__init__"), "__init__", "Maker.__init__", defArgs (inClass (top 44) 0), defBody (inClass (top 44) 0), defScope (inClass (top 44) 0), e_Maker___init__.map dDv, []⟩
def n_Maker___init__ : List Str := ["self", "paper", "sheet", "row"]
def p_Maker___init__ : List Str := ["self", "paper"]
def e_Maker_put : List D := []
def d_Maker_put : He.DefD := ⟨("Maker", some "put"), "put", "Maker.put", defArgs (inClass (top 44) 1), defBody (inClass (top 44) 1), defScope (inClass (top 44) 1), e_Maker_put.map dDv, []⟩
def n_Maker_put : List Str := ["self", "page"]
def p_Maker_put : List Str := ["self", "page"]
def e_Maker_atom_page : List D := []
def d_Maker_atom_page : He.DefD := ⟨("Maker", some "atom_page"), "atom_page", "Maker.atom_page", defArgs (inClass (top 44) 2), defBody (inClass (top 44) 2), defScope (inClass (top 44) 2), e_Maker_atom_page.map dDv, []⟩
def n_Maker_atom_page : List Str := ["self", "atom", "yes", "no", "place", "terms", "plus", "own"]
def p_Maker_atom_page : List Str := ["self", "atom", "yes", "no"]
def e_Maker_saying_pages : List D := []
def d_Maker_saying_pages : He.DefD := ⟨("Maker", some "saying_pages"), "saying_pages", "Maker.saying_pages", defArgs (inClass (top 44) 3), defBody (inClass (top 44) 3), defScope (inClass (top 44) 3), e_Maker_saying_pages.map dDv, []⟩
def n_Maker_saying_pages : List Str := ["self", "saying", "yes", "no"]
def p_Maker_saying_pages : List Str := ["self", "saying", "yes", "no"]
def e_Maker_check_pages : List D := []
def d_Maker_check_pages : He.DefD := ⟨("Maker", some "check_pages"), "check_pages", "Maker.check_pages", defArgs (inClass (top 44) 4), defBody (inClass (top 44) 4), defScope (inClass (top 44) 4), e_Maker_check_pages.map dDv, []⟩
def n_Maker_check_pages : List Str := ["self", "row", "each", "after", "yes", "no"]
def p_Maker_check_pages : List Str := ["self", "row", "each", "after"]
def e_Maker_row_pages : List D := []
def d_Maker_row_pages : He.DefD := ⟨("Maker", some "row_pages"), "row_pages", "Maker.row_pages", defArgs (inClass (top 44) 5), defBody (inClass (top 44) 5), defScope (inClass (top 44) 5), e_Maker_row_pages.map dDv, []⟩
def n_Maker_row_pages : List Str := ["self", "sheet", "after", "row", "ask"]
def p_Maker_row_pages : List Str := ["self", "sheet", "after"]
def e_Maker_way_pages : List D := []
def d_Maker_way_pages : He.DefD := ⟨("Maker", some "way_pages"), "way_pages", "Maker.way_pages", defArgs (inClass (top 44) 6), defBody (inClass (top 44) 6), defScope (inClass (top 44) 6), e_Maker_way_pages.map dDv, []⟩
def n_Maker_way_pages : List Str := ["self", "s", "tried", "after", "target", "saying"]
def p_Maker_way_pages : List Str := ["self", "s"]
def e_Maker_aim : List D := []
def d_Maker_aim : He.DefD := ⟨("Maker", some "aim"), "aim", "Maker.aim", defArgs (inClass (top 44) 7), defBody (inClass (top 44) 7), defScope (inClass (top 44) 7), e_Maker_aim.map dDv, []⟩
def n_Maker_aim : List Str := ["self", "name", "s", "sheet"]
def p_Maker_aim : List Str := ["self", "name"]
def e_Maker_sheet_start : List D := []
def d_Maker_sheet_start : He.DefD := ⟨("Maker", some "sheet_start"), "sheet_start", "Maker.sheet_start", defArgs (inClass (top 44) 8), defBody (inClass (top 44) 8), defScope (inClass (top 44) 8), e_Maker_sheet_start.map dDv, []⟩
def n_Maker_sheet_start : List Str := ["self", "s"]
def p_Maker_sheet_start : List Str := ["self", "s"]
def e_Maker_begin : List D := []
def d_Maker_begin : He.DefD := ⟨("Maker", some "begin"), "begin", "Maker.begin", defArgs (inClass (top 44) 9), defBody (inClass (top 44) 9), defScope (inClass (top 44) 9), e_Maker_begin.map dDv, []⟩
def n_Maker_begin : List Str := ["self", "s", "sheet", "out", "more", "on"]
def p_Maker_begin : List Str := ["self", "s"]
def e_targets_of : List D := []
def d_targets_of : He.DefD := ⟨("targets_of", none), "targets_of", "targets_of", defArgs (top 45), defBody (top 45), defScope (top 45), e_targets_of.map dDv, []⟩
def n_targets_of : List Str := ["page"]
def p_targets_of : List Str := ["page"]
def e_exchanged : List D := []
def d_exchanged : He.DefD := ⟨("exchanged", none), "exchanged", "exchanged", defArgs (top 46), defBody (top 46), defScope (top 46), e_exchanged.map dDv, []⟩
def n_exchanged : List Str := ["number", "start"]
def p_exchanged : List Str := ["number", "start"]
def e_turned : List D := []
def d_turned : He.DefD := ⟨("turned", none), "turned", "turned", defArgs (top 47), defBody (top 47), defScope (top 47), e_turned.map dDv, []⟩
def n_turned : List Str := ["page", "start", "many", "number"]
def p_turned : List Str := ["page", "start"]
def e_pages_of : List D := []
def d_pages_of : He.DefD := ⟨("pages_of", none), "pages_of", "pages_of", defArgs (top 48), defBody (top 48), defScope (top 48), e_pages_of.map dDv, []⟩
def n_pages_of : List Str := ["paper", "maker", "start", "made", "page", "k"]
def p_pages_of : List Str := ["paper"]
def e_compares : List D := []
def d_compares : He.DefD := ⟨("compares", none), "compares", "compares", defArgs (top 50), defBody (top 50), defScope (top 50), e_compares.map dDv, []⟩
def n_compares : List Str := ["number", "how", "other"]
def p_compares : List Str := ["number", "how", "other"]
def e_Run___init__ : List D := []
def d_Run___init__ : He.DefD := ⟨("Run", some "__init__"), "__init__", "Run.__init__", defArgs (inClass (top 51) 0), defBody (inClass (top 51) 0), defScope (inClass (top 51) 0), e_Run___init__.map dDv, []⟩
def n_Run___init__ : List Str := ["self", "book"]
def p_Run___init__ : List Str := ["self", "book"]
def e_Run_thing_of : List D := []
def d_Run_thing_of : He.DefD := ⟨("Run", some "thing_of"), "thing_of", "Run.thing_of", defArgs (inClass (top 51) 1), defBody (inClass (top 51) 1), defScope (inClass (top 51) 1), e_Run_thing_of.map dDv, []⟩
def n_Run_thing_of : List Str := ["self", "each"]
def p_Run_thing_of : List Str := ["self", "each"]
def e_Run_ask : List D := []
def d_Run_ask : He.DefD := ⟨("Run", some "ask"), "ask", "Run.ask", defArgs (inClass (top 51) 2), defBody (inClass (top 51) 2), defScope (inClass (top 51) 2), e_Run_ask.map dDv, []⟩
def n_Run_ask : List Str := ["self", "page", "word", "question", "told", "each", "after", "kind", "thing", "answer", "rank"]
def p_Run_ask : List Str := ["self", "page"]
def e_Run_compare : List D := []
def d_Run_compare : He.DefD := ⟨("Run", some "compare"), "compare", "Run.compare", defArgs (inClass (top 51) 3), defBody (inClass (top 51) 3), defScope (inClass (top 51) 3), e_Run_compare.map dDv, []⟩
def n_Run_compare : List Str := ["self", "page", "word", "question", "own", "how", "number", "yes", "no", "thing", "rank"]
def p_Run_compare : List Str := ["self", "page"]
def e_Run_total : List D := []
def d_Run_total : He.DefD := ⟨("Run", some "total"), "total", "Run.total", defArgs (inClass (top 51) 4), defBody (inClass (top 51) 4), defScope (inClass (top 51) 4), e_Run_total.map dDv, []⟩
def n_Run_total : List Str := ["self", "page", "word", "terms", "plus", "how", "number", "yes", "no", "found", "times", "question"]
def p_Run_total : List Str := ["self", "page"]
def e_Run_more : List D := []
def d_Run_more : He.DefD := ⟨("Run", some "more"), "more", "Run.more", defArgs (inClass (top 51) 5), defBody (inClass (top 51) 5), defScope (inClass (top 51) 5), e_Run_more.map dDv, []⟩
def n_Run_more : List Str := ["self", "page", "word", "question", "yes", "no", "names"]
def p_Run_more : List Str := ["self", "page"]
def e_Run_tell : List D := []
def d_Run_tell : He.DefD := ⟨("Run", some "tell"), "tell", "Run.tell", defArgs (inClass (top 51) 6), defBody (inClass (top 51) 6), defScope (inClass (top 51) 6), e_Run_tell.map dDv, []⟩
def n_Run_tell : List Str := ["self", "page"]
def p_Run_tell : List Str := ["self", "page"]
def e_Run_step : List D := []
def d_Run_step : He.DefD := ⟨("Run", some "step"), "step", "Run.step", defArgs (inClass (top 51) 7), defBody (inClass (top 51) 7), defScope (inClass (top 51) 7), e_Run_step.map dDv, []⟩
def n_Run_step : List Str := ["self", "page", "word"]
def p_Run_step : List Str := ["self", "page"]
def e_run : List D := []
def d_run : He.DefD := ⟨("run", none), "run", "run", defArgs (top 52), defBody (top 52), defScope (top 52), e_run.map dDv, []⟩
def n_run : List Str := ["pages", "book", "state", "at"]
def p_run : List Str := ["pages", "book"]
def e_L_cell : List D := []
def d_L_cell : He.DefD := ⟨("_law_cell", none), "_law_cell", "_law_cell", defArgs (top 54), defBody (top 54), defScope (top 54), e_L_cell.map dDv, []⟩
def n_L_cell : List Str := ["_law_script", "_law_k", "_law_number"]
def p_L_cell : List Str := ["_law_script", "_law_k"]
def e_L_name : List D := []
def d_L_name : He.DefD := ⟨("_law_name", none), "_law_name", "_law_name", defArgs (top 55), defBody (top 55), defScope (top 55), e_L_name.map dDv, []⟩
def n_L_name : List Str := ["_law_script", "_law_k", "_law_some", "_law_pad"]
def p_L_name : List Str := ["_law_script", "_law_k"]
def e_L_sheets : List D := []
def d_L_sheets : He.DefD := ⟨("_law_sheets", none), "_law_sheets", "_law_sheets", defArgs (top 56), defBody (top 56), defScope (top 56), e_L_sheets.map dDv, []⟩
def n_L_sheets : List Str := ["_law_script", "_law_sheets_here", "_law_number", "_law_s", "_law_rows", "_law_r", "_law_cell_here", "_law_low"]
def p_L_sheets : List Str := ["_law_script"]
def e_L_told : List D := []
def d_L_told : He.DefD := ⟨("_law_told", none), "_law_told", "_law_told", defArgs (top 57), defBody (top 57), defScope (top 57), e_L_told.map dDv, []⟩
def n_L_told : List Str := ["_law_pages", "_law_told_here", "_law_at"]
def p_L_told : List Str := ["_law_pages"]
def e_law : List D := []
def d_law : He.DefD := ⟨("law", none), "law", "law", defArgs (top 58), defBody (top 58), defScope (top 58), e_law.map dDv, []⟩
def n_law : List Str := ["_law_script", "_law_sheets_here", "_law_made", "_law_asked", "_law_s", "_law_rows", "_law_paper", "_law_pages", "_law_due", "_law_stop", "_law_book", "_law_log", "_law_k", "_law_row", "_law_last", "_law_kept"]
def p_law : List Str := ["_law_script"]
def dd0 : List He.DefD := [d_WrongKind___init__, d_is_whole, d_is_name, d_are_figures, d_number_of, d_Kind___init__, d_Kind_fits, d_YesNo___init__, d_YesNo_fits, d_YesNo_shown, d_YesNo_rank, d_YesNo_told, d_Whole_fits, d_Whole_shown, d_Whole_rank, d_Whole_told, d_hundredths, d_Money_shown, d_Money_told, d_Pick___init__, d_Pick_fits, d_Pick_shown, d_Pick_rank, d_Pick_told, d_Names___init__]
def dd1 : List He.DefD := [d_Names_fits, d_Names_shown, d_Names_rank, d_Names_told, d_whole_of, d_money_of, d_kind_of, d_Row___init__, d_Ask___init__, d_Check___init__, d_Sheet___init__, d_Paper___init__, d_kinds_of, d_put_in, d_put_together, d_Is___init__, d_Is_shown, d_Is_settled, d_Not___init__, d_Not_shown, d_Not_settled, d_Both___init__, d_Both_shown, d_Both_settled, d_Either___init__]
def dd2 : List He.DefD := [d_Either_shown, d_Either_settled, d_Maker___init__, d_Maker_put, d_Maker_atom_page, d_Maker_saying_pages, d_Maker_check_pages, d_Maker_row_pages, d_Maker_way_pages, d_Maker_aim, d_Maker_sheet_start, d_Maker_begin, d_targets_of, d_exchanged, d_turned, d_pages_of, d_compares, d_Run___init__, d_Run_thing_of, d_Run_ask, d_Run_compare, d_Run_total, d_Run_more, d_Run_tell, d_Run_step]
def dd3 : List He.DefD := [d_run, d_L_cell, d_L_name, d_L_sheets, d_L_told, d_law]
def dd : List He.DefD := dd0 ++ dd1 ++ dd2 ++ dd3
def dfl0 : List (List D) := [e_WrongKind___init__, e_is_whole, e_is_name, e_are_figures, e_number_of, e_Kind___init__, e_Kind_fits, e_YesNo___init__, e_YesNo_fits, e_YesNo_shown, e_YesNo_rank, e_YesNo_told, e_Whole_fits, e_Whole_shown, e_Whole_rank, e_Whole_told, e_hundredths, e_Money_shown, e_Money_told, e_Pick___init__, e_Pick_fits, e_Pick_shown, e_Pick_rank, e_Pick_told, e_Names___init__]
def dfl1 : List (List D) := [e_Names_fits, e_Names_shown, e_Names_rank, e_Names_told, e_whole_of, e_money_of, e_kind_of, e_Row___init__, e_Ask___init__, e_Check___init__, e_Sheet___init__, e_Paper___init__, e_kinds_of, e_put_in, e_put_together, e_Is___init__, e_Is_shown, e_Is_settled, e_Not___init__, e_Not_shown, e_Not_settled, e_Both___init__, e_Both_shown, e_Both_settled, e_Either___init__]
def dfl2 : List (List D) := [e_Either_shown, e_Either_settled, e_Maker___init__, e_Maker_put, e_Maker_atom_page, e_Maker_saying_pages, e_Maker_check_pages, e_Maker_row_pages, e_Maker_way_pages, e_Maker_aim, e_Maker_sheet_start, e_Maker_begin, e_targets_of, e_exchanged, e_turned, e_pages_of, e_compares, e_Run___init__, e_Run_thing_of, e_Run_ask, e_Run_compare, e_Run_total, e_Run_more, e_Run_tell, e_Run_step]
def dfl3 : List (List D) := [e_run, e_L_cell, e_L_name, e_L_sheets, e_L_told, e_law]
def dfl : List (List D) := dfl0 ++ dfl1 ++ dfl2 ++ dfl3
def Ns0 : List (List Str) := [n_WrongKind___init__, n_is_whole, n_is_name, n_are_figures, n_number_of, n_Kind___init__, n_Kind_fits, n_YesNo___init__, n_YesNo_fits, n_YesNo_shown, n_YesNo_rank, n_YesNo_told, n_Whole_fits, n_Whole_shown, n_Whole_rank, n_Whole_told, n_hundredths, n_Money_shown, n_Money_told, n_Pick___init__, n_Pick_fits, n_Pick_shown, n_Pick_rank, n_Pick_told, n_Names___init__]
def Ns1 : List (List Str) := [n_Names_fits, n_Names_shown, n_Names_rank, n_Names_told, n_whole_of, n_money_of, n_kind_of, n_Row___init__, n_Ask___init__, n_Check___init__, n_Sheet___init__, n_Paper___init__, n_kinds_of, n_put_in, n_put_together, n_Is___init__, n_Is_shown, n_Is_settled, n_Not___init__, n_Not_shown, n_Not_settled, n_Both___init__, n_Both_shown, n_Both_settled, n_Either___init__]
def Ns2 : List (List Str) := [n_Either_shown, n_Either_settled, n_Maker___init__, n_Maker_put, n_Maker_atom_page, n_Maker_saying_pages, n_Maker_check_pages, n_Maker_row_pages, n_Maker_way_pages, n_Maker_aim, n_Maker_sheet_start, n_Maker_begin, n_targets_of, n_exchanged, n_turned, n_pages_of, n_compares, n_Run___init__, n_Run_thing_of, n_Run_ask, n_Run_compare, n_Run_total, n_Run_more, n_Run_tell, n_Run_step]
def Ns3 : List (List Str) := [n_run, n_L_cell, n_L_name, n_L_sheets, n_L_told, n_law]
def Ns : List (List Str) := Ns0 ++ Ns1 ++ Ns2 ++ Ns3
def Ps0 : List (List Str) := [p_WrongKind___init__, p_is_whole, p_is_name, p_are_figures, p_number_of, p_Kind___init__, p_Kind_fits, p_YesNo___init__, p_YesNo_fits, p_YesNo_shown, p_YesNo_rank, p_YesNo_told, p_Whole_fits, p_Whole_shown, p_Whole_rank, p_Whole_told, p_hundredths, p_Money_shown, p_Money_told, p_Pick___init__, p_Pick_fits, p_Pick_shown, p_Pick_rank, p_Pick_told, p_Names___init__]
def Ps1 : List (List Str) := [p_Names_fits, p_Names_shown, p_Names_rank, p_Names_told, p_whole_of, p_money_of, p_kind_of, p_Row___init__, p_Ask___init__, p_Check___init__, p_Sheet___init__, p_Paper___init__, p_kinds_of, p_put_in, p_put_together, p_Is___init__, p_Is_shown, p_Is_settled, p_Not___init__, p_Not_shown, p_Not_settled, p_Both___init__, p_Both_shown, p_Both_settled, p_Either___init__]
def Ps2 : List (List Str) := [p_Either_shown, p_Either_settled, p_Maker___init__, p_Maker_put, p_Maker_atom_page, p_Maker_saying_pages, p_Maker_check_pages, p_Maker_row_pages, p_Maker_way_pages, p_Maker_aim, p_Maker_sheet_start, p_Maker_begin, p_targets_of, p_exchanged, p_turned, p_pages_of, p_compares, p_Run___init__, p_Run_thing_of, p_Run_ask, p_Run_compare, p_Run_total, p_Run_more, p_Run_tell, p_Run_step]
def Ps3 : List (List Str) := [p_run, p_L_cell, p_L_name, p_L_sheets, p_L_told, p_law]
def Ps : List (List Str) := Ps0 ++ Ps1 ++ Ps2 ++ Ps3
def hs : Hs := ⟨P, tx, dfl, dd⟩
end Tx

namespace Hd
open PySem PySem.Spec PyProof.Rows L2 Co Tx
abbrev R : PySem.W.OpenRow := PySem.W.OpenLaw.row PySem.Challenge.rw_askpaper_k71_pages_of_plain_papers
def names0 : List PySem.Str := ["_wall", "__name__", "AskError", "NoNumber", "NoAnswer", "NoKind", "WrongKind", "LETTERS", "FIGURES", "NO_NAMES", "LONGEST_NAME", "is_whole", "is_name", "are_figures", "number_of", "Kind", "YesNo", "Whole", "hundredths", "Money", "Pick", "Names", "whole_of", "money_of", "kind_of"]
def names1 : List PySem.Str := ["Row", "Ask", "Check", "Sheet", "Paper", "kinds_of", "put_in", "put_together", "Saying", "Is", "Not", "Both", "Either", "Maker", "targets_of", "exchanged", "turned", "pages_of", "compares", "Run", "run", "_law_cell", "_law_name", "_law_sheets", "_law_told"]
def names : List PySem.Str := names0 ++ names1
def as0 : List PySem.Addr := [2, 3, 31, 44, 56, 68, 87, 90, 97, 104, 112, 120, 158, 221, 275, 284, 315, 376, 438, 447, 454, 461, 478, 507, 534, 553, 574, 585, 592, 597]
def as1 : List PySem.Addr := [621, 671, 725, 779, 833, 915, 926, 933, 938, 943, 950, 1016, 1027, 1034, 1041, 1048, 1055, 1060, 86, 96, 103, 111, 105, 119, 113, 157, 220, 274, 283, 314]
def as2 : List PySem.Addr := [375, 437, 446, 453, 460, 477, 506, 533, 552, 573, 584, 591, 596, 620, 670, 724, 778, 832, 914, 925, 932, 937, 942, 949, 1015, 1026, 1033, 1040, 1047, 1054]
def as3 : List PySem.Addr := [1059, 84, 134, 141, 176, 183, 197, 204, 218, 237, 251, 258, 272, 305, 312, 331, 338, 352, 359, 373, 393, 400, 414, 421, 435, 475, 497, 524, 550, 571]
def as4 : List PySem.Addr := [640, 647, 654, 687, 694, 708, 741, 748, 762, 795, 802, 816, 849, 856, 863, 870, 877, 884, 891, 898, 905, 912, 964, 971, 978, 985, 992, 999, 1006, 1013]
def as5 : List PySem.Addr := [83, 133, 140, 175, 182, 196, 203, 217, 236, 250, 257, 271, 304, 311, 330, 337, 351, 358, 372, 392, 386, 399, 413, 420, 434, 474, 496, 490, 523, 517]
def as6 : List PySem.Addr := [549, 570, 639, 633, 646, 653, 686, 693, 707, 740, 747, 761, 794, 801, 815, 848, 855, 862, 869, 876, 883, 890, 897, 904, 911, 963, 970, 977, 984, 991]
def as7 : List PySem.Addr := [998, 1005, 1012]
def asA : List PySem.Addr := as0 ++ (as1 ++ (as2 ++ (as3 ++ (as4 ++ (as5 ++ (as6 ++ (as7)))))))
abbrev hk : PySem.W.Hook := hookA asA hs
def ob (s : PySem.W.SharedT) : He.AlD := obsCA asA hs (HandSHeadRun.getT s)
theorem ob_eq (s : PySem.W.SharedT) : ob s = hk.obs s.abs := obsCA_eq (HandSHeadRun.getT_eq s)
theorem run (w : World) : HandSHeadRun.RunEq R (PySem.W.view R.prog [58]) hk ob 20000 names w := by
  intro os
  kernel_rfl

theorem bd_WrongKind___init__ : Bd d_WrongKind___init__ p_WrongKind___init__ := ⟨fun _ _ _ _ _ _ _ us hl => match us, hl with | [_, _], _ => rfl, fun h => absurd rfl h⟩
theorem st_WrongKind___init__ : DSt hs 0 ⟨2, 2, b_WrongKind___init__⟩ := ⟨d_WrongKind___init__, n_WrongKind___init__, p_WrongKind___init__, rfl, rfl, rfl, by decide, by kernel_rfl, rfl, rfl, fun K n => by kernel_rfl, bd_WrongKind___init__⟩
theorem bd_is_whole : Bd d_is_whole p_is_whole := ⟨fun _ _ _ _ _ _ _ us hl => match us, hl with | [_], _ => rfl, fun h => absurd rfl h⟩
theorem st_is_whole : DSt hs 1 ⟨1, 1, b_is_whole⟩ := ⟨d_is_whole, n_is_whole, p_is_whole, rfl, rfl, rfl, by decide, by kernel_rfl, rfl, rfl, fun K n => by kernel_rfl, bd_is_whole⟩
theorem bd_is_name : Bd d_is_name p_is_name := ⟨fun _ _ _ _ _ _ _ us hl => match us, hl with | [_], _ => rfl, fun h => absurd rfl h⟩
theorem st_is_name : DSt hs 2 ⟨1, 2, b_is_name⟩ := ⟨d_is_name, n_is_name, p_is_name, rfl, rfl, rfl, by decide, by kernel_rfl, rfl, rfl, fun K n => by kernel_rfl, bd_is_name⟩
theorem bd_are_figures : Bd d_are_figures p_are_figures := by
  refine ⟨fun h => (by cases h), fun _ n j hn hj T kV doc pm an cdv ct us its hl hi => ?_⟩
  have hj : j ≤ 1 := hj
  have hn : n + (1 - j) = 2 := hn
  have hi : its.length = 1 := hi
  by_cases e0 : j = 0
  · subst e0
    obtain rfl : n = 1 := by omega
    exact match us, its, hl, hi with | [_], [_], _, _ => ⟨_, rfl, rfl⟩
  by_cases e1 : j = 1
  · subst e1
    obtain rfl : n = 2 := by omega
    exact match us, its, hl, hi with | [_, _], [_], _, _ => ⟨_, rfl, rfl⟩
  omega
theorem st_are_figures : DSt hs 3 ⟨2, 3, b_are_figures⟩ := ⟨d_are_figures, n_are_figures, p_are_figures, rfl, rfl, rfl, by decide, by kernel_rfl, rfl, rfl, fun K n => by kernel_rfl, bd_are_figures⟩
theorem bd_number_of : Bd d_number_of p_number_of := by
  refine ⟨fun h => (by cases h), fun _ n j hn hj T kV doc pm an cdv ct us its hl hi => ?_⟩
  have hj : j ≤ 1 := hj
  have hn : n + (1 - j) = 2 := hn
  have hi : its.length = 1 := hi
  by_cases e0 : j = 0
  · subst e0
    obtain rfl : n = 1 := by omega
    exact match us, its, hl, hi with | [_], [_], _, _ => ⟨_, rfl, rfl⟩
  by_cases e1 : j = 1
  · subst e1
    obtain rfl : n = 2 := by omega
    exact match us, its, hl, hi with | [_, _], [_], _, _ => ⟨_, rfl, rfl⟩
  omega
theorem st_number_of : DSt hs 4 ⟨2, 3, b_number_of⟩ := ⟨d_number_of, n_number_of, p_number_of, rfl, rfl, rfl, by decide, by kernel_rfl, rfl, rfl, fun K n => by kernel_rfl, bd_number_of⟩
theorem bd_Kind___init__ : Bd d_Kind___init__ p_Kind___init__ := ⟨fun _ _ _ _ _ _ _ us hl => match us, hl with | [_, _, _], _ => rfl, fun h => absurd rfl h⟩
theorem st_Kind___init__ : DSt hs 5 ⟨3, 3, b_Kind___init__⟩ := ⟨d_Kind___init__, n_Kind___init__, p_Kind___init__, rfl, rfl, rfl, by decide, by kernel_rfl, rfl, rfl, fun K n => by kernel_rfl, bd_Kind___init__⟩
theorem bd_Kind_fits : Bd d_Kind_fits p_Kind_fits := ⟨fun _ _ _ _ _ _ _ us hl => match us, hl with | [_, _], _ => rfl, fun h => absurd rfl h⟩
theorem st_Kind_fits : DSt hs 6 ⟨2, 2, b_Kind_fits⟩ := ⟨d_Kind_fits, n_Kind_fits, p_Kind_fits, rfl, rfl, rfl, by decide, by kernel_rfl, rfl, rfl, fun K n => by kernel_rfl, bd_Kind_fits⟩
theorem bd_YesNo___init__ : Bd d_YesNo___init__ p_YesNo___init__ := ⟨fun _ _ _ _ _ _ _ us hl => match us, hl with | [_], _ => rfl, fun h => absurd rfl h⟩
theorem st_YesNo___init__ : DSt hs 7 ⟨1, 1, b_YesNo___init__⟩ := ⟨d_YesNo___init__, n_YesNo___init__, p_YesNo___init__, rfl, rfl, rfl, by decide, by kernel_rfl, rfl, rfl, fun K n => by kernel_rfl, bd_YesNo___init__⟩
theorem bd_YesNo_fits : Bd d_YesNo_fits p_YesNo_fits := ⟨fun _ _ _ _ _ _ _ us hl => match us, hl with | [_, _], _ => rfl, fun h => absurd rfl h⟩
theorem st_YesNo_fits : DSt hs 8 ⟨2, 2, b_YesNo_fits⟩ := ⟨d_YesNo_fits, n_YesNo_fits, p_YesNo_fits, rfl, rfl, rfl, by decide, by kernel_rfl, rfl, rfl, fun K n => by kernel_rfl, bd_YesNo_fits⟩
theorem bd_YesNo_shown : Bd d_YesNo_shown p_YesNo_shown := ⟨fun _ _ _ _ _ _ _ us hl => match us, hl with | [_, _], _ => rfl, fun h => absurd rfl h⟩
theorem st_YesNo_shown : DSt hs 9 ⟨2, 2, b_YesNo_shown⟩ := ⟨d_YesNo_shown, n_YesNo_shown, p_YesNo_shown, rfl, rfl, rfl, by decide, by kernel_rfl, rfl, rfl, fun K n => by kernel_rfl, bd_YesNo_shown⟩
theorem bd_YesNo_rank : Bd d_YesNo_rank p_YesNo_rank := ⟨fun _ _ _ _ _ _ _ us hl => match us, hl with | [_, _], _ => rfl, fun h => absurd rfl h⟩
theorem st_YesNo_rank : DSt hs 10 ⟨2, 2, b_YesNo_rank⟩ := ⟨d_YesNo_rank, n_YesNo_rank, p_YesNo_rank, rfl, rfl, rfl, by decide, by kernel_rfl, rfl, rfl, fun K n => by kernel_rfl, bd_YesNo_rank⟩
theorem bd_YesNo_told : Bd d_YesNo_told p_YesNo_told := ⟨fun _ _ _ _ _ _ _ us hl => match us, hl with | [_], _ => rfl, fun h => absurd rfl h⟩
theorem st_YesNo_told : DSt hs 11 ⟨1, 1, b_YesNo_told⟩ := ⟨d_YesNo_told, n_YesNo_told, p_YesNo_told, rfl, rfl, rfl, by decide, by kernel_rfl, rfl, rfl, fun K n => by kernel_rfl, bd_YesNo_told⟩
theorem bd_Whole_fits : Bd d_Whole_fits p_Whole_fits := ⟨fun _ _ _ _ _ _ _ us hl => match us, hl with | [_, _], _ => rfl, fun h => absurd rfl h⟩
theorem st_Whole_fits : DSt hs 12 ⟨2, 2, b_Whole_fits⟩ := ⟨d_Whole_fits, n_Whole_fits, p_Whole_fits, rfl, rfl, rfl, by decide, by kernel_rfl, rfl, rfl, fun K n => by kernel_rfl, bd_Whole_fits⟩
theorem bd_Whole_shown : Bd d_Whole_shown p_Whole_shown := ⟨fun _ _ _ _ _ _ _ us hl => match us, hl with | [_, _], _ => rfl, fun h => absurd rfl h⟩
theorem st_Whole_shown : DSt hs 13 ⟨2, 2, b_Whole_shown⟩ := ⟨d_Whole_shown, n_Whole_shown, p_Whole_shown, rfl, rfl, rfl, by decide, by kernel_rfl, rfl, rfl, fun K n => by kernel_rfl, bd_Whole_shown⟩
theorem bd_Whole_rank : Bd d_Whole_rank p_Whole_rank := ⟨fun _ _ _ _ _ _ _ us hl => match us, hl with | [_, _], _ => rfl, fun h => absurd rfl h⟩
theorem st_Whole_rank : DSt hs 14 ⟨2, 2, b_Whole_rank⟩ := ⟨d_Whole_rank, n_Whole_rank, p_Whole_rank, rfl, rfl, rfl, by decide, by kernel_rfl, rfl, rfl, fun K n => by kernel_rfl, bd_Whole_rank⟩
theorem bd_Whole_told : Bd d_Whole_told p_Whole_told := ⟨fun _ _ _ _ _ _ _ us hl => match us, hl with | [_], _ => rfl, fun h => absurd rfl h⟩
theorem st_Whole_told : DSt hs 15 ⟨1, 1, b_Whole_told⟩ := ⟨d_Whole_told, n_Whole_told, p_Whole_told, rfl, rfl, rfl, by decide, by kernel_rfl, rfl, rfl, fun K n => by kernel_rfl, bd_Whole_told⟩
theorem bd_hundredths : Bd d_hundredths p_hundredths := ⟨fun _ _ _ _ _ _ _ us hl => match us, hl with | [_], _ => rfl, fun h => absurd rfl h⟩
theorem st_hundredths : DSt hs 16 ⟨1, 6, b_hundredths⟩ := ⟨d_hundredths, n_hundredths, p_hundredths, rfl, rfl, rfl, by decide, by kernel_rfl, rfl, rfl, fun K n => by kernel_rfl, bd_hundredths⟩
theorem bd_Money_shown : Bd d_Money_shown p_Money_shown := ⟨fun _ _ _ _ _ _ _ us hl => match us, hl with | [_, _], _ => rfl, fun h => absurd rfl h⟩
theorem st_Money_shown : DSt hs 17 ⟨2, 5, b_Money_shown⟩ := ⟨d_Money_shown, n_Money_shown, p_Money_shown, rfl, rfl, rfl, by decide, by kernel_rfl, rfl, rfl, fun K n => by kernel_rfl, bd_Money_shown⟩
theorem bd_Money_told : Bd d_Money_told p_Money_told := ⟨fun _ _ _ _ _ _ _ us hl => match us, hl with | [_], _ => rfl, fun h => absurd rfl h⟩
theorem st_Money_told : DSt hs 18 ⟨1, 1, b_Money_told⟩ := ⟨d_Money_told, n_Money_told, p_Money_told, rfl, rfl, rfl, by decide, by kernel_rfl, rfl, rfl, fun K n => by kernel_rfl, bd_Money_told⟩
theorem bd_Pick___init__ : Bd d_Pick___init__ p_Pick___init__ := ⟨fun _ _ _ _ _ _ _ us hl => match us, hl with | [_, _], _ => rfl, fun h => absurd rfl h⟩
theorem st_Pick___init__ : DSt hs 19 ⟨2, 2, b_Pick___init__⟩ := ⟨d_Pick___init__, n_Pick___init__, p_Pick___init__, rfl, rfl, rfl, by decide, by kernel_rfl, rfl, rfl, fun K n => by kernel_rfl, bd_Pick___init__⟩
theorem bd_Pick_fits : Bd d_Pick_fits p_Pick_fits := ⟨fun _ _ _ _ _ _ _ us hl => match us, hl with | [_, _], _ => rfl, fun h => absurd rfl h⟩
theorem st_Pick_fits : DSt hs 20 ⟨2, 2, b_Pick_fits⟩ := ⟨d_Pick_fits, n_Pick_fits, p_Pick_fits, rfl, rfl, rfl, by decide, by kernel_rfl, rfl, rfl, fun K n => by kernel_rfl, bd_Pick_fits⟩
theorem bd_Pick_shown : Bd d_Pick_shown p_Pick_shown := ⟨fun _ _ _ _ _ _ _ us hl => match us, hl with | [_, _], _ => rfl, fun h => absurd rfl h⟩
theorem st_Pick_shown : DSt hs 21 ⟨2, 2, b_Pick_shown⟩ := ⟨d_Pick_shown, n_Pick_shown, p_Pick_shown, rfl, rfl, rfl, by decide, by kernel_rfl, rfl, rfl, fun K n => by kernel_rfl, bd_Pick_shown⟩
theorem bd_Pick_rank : Bd d_Pick_rank p_Pick_rank := ⟨fun _ _ _ _ _ _ _ us hl => match us, hl with | [_, _], _ => rfl, fun h => absurd rfl h⟩
theorem st_Pick_rank : DSt hs 22 ⟨2, 2, b_Pick_rank⟩ := ⟨d_Pick_rank, n_Pick_rank, p_Pick_rank, rfl, rfl, rfl, by decide, by kernel_rfl, rfl, rfl, fun K n => by kernel_rfl, bd_Pick_rank⟩
theorem bd_Pick_told : Bd d_Pick_told p_Pick_told := ⟨fun _ _ _ _ _ _ _ us hl => match us, hl with | [_], _ => rfl, fun h => absurd rfl h⟩
theorem st_Pick_told : DSt hs 23 ⟨1, 1, b_Pick_told⟩ := ⟨d_Pick_told, n_Pick_told, p_Pick_told, rfl, rfl, rfl, by decide, by kernel_rfl, rfl, rfl, fun K n => by kernel_rfl, bd_Pick_told⟩
theorem bd_Names___init__ : Bd d_Names___init__ p_Names___init__ := by
  refine ⟨fun h => (by cases h), fun _ n j hn hj T kV doc pm an cdv ct us its hl hi => ?_⟩
  have hj : j ≤ 1 := hj
  have hn : n + (1 - j) = 2 := hn
  have hi : its.length = 1 := hi
  by_cases e0 : j = 0
  · subst e0
    obtain rfl : n = 1 := by omega
    exact match us, its, hl, hi with | [_], [_], _, _ => ⟨_, rfl, rfl⟩
  by_cases e1 : j = 1
  · subst e1
    obtain rfl : n = 2 := by omega
    exact match us, its, hl, hi with | [_, _], [_], _, _ => ⟨_, rfl, rfl⟩
  omega
theorem st_Names___init__ : DSt hs 24 ⟨2, 2, b_Names___init__⟩ := ⟨d_Names___init__, n_Names___init__, p_Names___init__, rfl, rfl, rfl, by decide, by kernel_rfl, rfl, rfl, fun K n => by kernel_rfl, bd_Names___init__⟩
theorem bd_Names_fits : Bd d_Names_fits p_Names_fits := ⟨fun _ _ _ _ _ _ _ us hl => match us, hl with | [_, _], _ => rfl, fun h => absurd rfl h⟩
theorem st_Names_fits : DSt hs 25 ⟨2, 3, b_Names_fits⟩ := ⟨d_Names_fits, n_Names_fits, p_Names_fits, rfl, rfl, rfl, by decide, by kernel_rfl, rfl, rfl, fun K n => by kernel_rfl, bd_Names_fits⟩
theorem bd_Names_shown : Bd d_Names_shown p_Names_shown := ⟨fun _ _ _ _ _ _ _ us hl => match us, hl with | [_, _], _ => rfl, fun h => absurd rfl h⟩
theorem st_Names_shown : DSt hs 26 ⟨2, 2, b_Names_shown⟩ := ⟨d_Names_shown, n_Names_shown, p_Names_shown, rfl, rfl, rfl, by decide, by kernel_rfl, rfl, rfl, fun K n => by kernel_rfl, bd_Names_shown⟩
theorem bd_Names_rank : Bd d_Names_rank p_Names_rank := ⟨fun _ _ _ _ _ _ _ us hl => match us, hl with | [_, _], _ => rfl, fun h => absurd rfl h⟩
theorem st_Names_rank : DSt hs 27 ⟨2, 2, b_Names_rank⟩ := ⟨d_Names_rank, n_Names_rank, p_Names_rank, rfl, rfl, rfl, by decide, by kernel_rfl, rfl, rfl, fun K n => by kernel_rfl, bd_Names_rank⟩
theorem bd_Names_told : Bd d_Names_told p_Names_told := ⟨fun _ _ _ _ _ _ _ us hl => match us, hl with | [_], _ => rfl, fun h => absurd rfl h⟩
theorem st_Names_told : DSt hs 28 ⟨1, 1, b_Names_told⟩ := ⟨d_Names_told, n_Names_told, p_Names_told, rfl, rfl, rfl, by decide, by kernel_rfl, rfl, rfl, fun K n => by kernel_rfl, bd_Names_told⟩
theorem bd_whole_of : Bd d_whole_of p_whole_of := ⟨fun _ _ _ _ _ _ _ us hl => match us, hl with | [_], _ => rfl, fun h => absurd rfl h⟩
theorem st_whole_of : DSt hs 29 ⟨1, 3, b_whole_of⟩ := ⟨d_whole_of, n_whole_of, p_whole_of, rfl, rfl, rfl, by decide, by kernel_rfl, rfl, rfl, fun K n => by kernel_rfl, bd_whole_of⟩
theorem bd_money_of : Bd d_money_of p_money_of := ⟨fun _ _ _ _ _ _ _ us hl => match us, hl with | [_], _ => rfl, fun h => absurd rfl h⟩
theorem st_money_of : DSt hs 30 ⟨1, 3, b_money_of⟩ := ⟨d_money_of, n_money_of, p_money_of, rfl, rfl, rfl, by decide, by kernel_rfl, rfl, rfl, fun K n => by kernel_rfl, bd_money_of⟩
theorem bd_kind_of : Bd d_kind_of p_kind_of := ⟨fun _ _ _ _ _ _ _ us hl => match us, hl with | [_], _ => rfl, fun h => absurd rfl h⟩
theorem st_kind_of : DSt hs 31 ⟨1, 4, b_kind_of⟩ := ⟨d_kind_of, n_kind_of, p_kind_of, rfl, rfl, rfl, by decide, by kernel_rfl, rfl, rfl, fun K n => by kernel_rfl, bd_kind_of⟩
theorem bd_Row___init__ : Bd d_Row___init__ p_Row___init__ := ⟨fun _ _ _ _ _ _ _ us hl => match us, hl with | [_, _], _ => rfl, fun h => absurd rfl h⟩
theorem st_Row___init__ : DSt hs 32 ⟨2, 2, b_Row___init__⟩ := ⟨d_Row___init__, n_Row___init__, p_Row___init__, rfl, rfl, rfl, by decide, by kernel_rfl, rfl, rfl, fun K n => by kernel_rfl, bd_Row___init__⟩
theorem bd_Ask___init__ : Bd d_Ask___init__ p_Ask___init__ := by
  refine ⟨fun h => (by cases h), fun _ n j hn hj T kV doc pm an cdv ct us its hl hi => ?_⟩
  have hj : j ≤ 1 := hj
  have hn : n + (1 - j) = 4 := hn
  have hi : its.length = 1 := hi
  by_cases e0 : j = 0
  · subst e0
    obtain rfl : n = 3 := by omega
    exact match us, its, hl, hi with | [_, _, _], [_], _, _ => ⟨_, rfl, rfl⟩
  by_cases e1 : j = 1
  · subst e1
    obtain rfl : n = 4 := by omega
    exact match us, its, hl, hi with | [_, _, _, _], [_], _, _ => ⟨_, rfl, rfl⟩
  omega
theorem st_Ask___init__ : DSt hs 33 ⟨4, 4, b_Ask___init__⟩ := ⟨d_Ask___init__, n_Ask___init__, p_Ask___init__, rfl, rfl, rfl, by decide, by kernel_rfl, rfl, rfl, fun K n => by kernel_rfl, bd_Ask___init__⟩
theorem bd_Check___init__ : Bd d_Check___init__ p_Check___init__ := by
  refine ⟨fun h => (by cases h), fun _ n j hn hj T kV doc pm an cdv ct us its hl hi => ?_⟩
  have hj : j ≤ 1 := hj
  have hn : n + (1 - j) = 4 := hn
  have hi : its.length = 1 := hi
  by_cases e0 : j = 0
  · subst e0
    obtain rfl : n = 3 := by omega
    exact match us, its, hl, hi with | [_, _, _], [_], _, _ => ⟨_, rfl, rfl⟩
  by_cases e1 : j = 1
  · subst e1
    obtain rfl : n = 4 := by omega
    exact match us, its, hl, hi with | [_, _, _, _], [_], _, _ => ⟨_, rfl, rfl⟩
  omega
theorem st_Check___init__ : DSt hs 34 ⟨4, 4, b_Check___init__⟩ := ⟨d_Check___init__, n_Check___init__, p_Check___init__, rfl, rfl, rfl, by decide, by kernel_rfl, rfl, rfl, fun K n => by kernel_rfl, bd_Check___init__⟩
theorem bd_Sheet___init__ : Bd d_Sheet___init__ p_Sheet___init__ := ⟨fun _ _ _ _ _ _ _ us hl => match us, hl with | [_, _, _, _, _], _ => rfl, fun h => absurd rfl h⟩
theorem st_Sheet___init__ : DSt hs 35 ⟨5, 5, b_Sheet___init__⟩ := ⟨d_Sheet___init__, n_Sheet___init__, p_Sheet___init__, rfl, rfl, rfl, by decide, by kernel_rfl, rfl, rfl, fun K n => by kernel_rfl, bd_Sheet___init__⟩
theorem bd_Paper___init__ : Bd d_Paper___init__ p_Paper___init__ := ⟨fun _ _ _ _ _ _ _ us hl => match us, hl with | [_, _, _, _], _ => rfl, fun h => absurd rfl h⟩
theorem st_Paper___init__ : DSt hs 36 ⟨4, 4, b_Paper___init__⟩ := ⟨d_Paper___init__, n_Paper___init__, p_Paper___init__, rfl, rfl, rfl, by decide, by kernel_rfl, rfl, rfl, fun K n => by kernel_rfl, bd_Paper___init__⟩
theorem bd_kinds_of : Bd d_kinds_of p_kinds_of := ⟨fun _ _ _ _ _ _ _ us hl => match us, hl with | [_], _ => rfl, fun h => absurd rfl h⟩
theorem st_kinds_of : DSt hs 37 ⟨1, 4, b_kinds_of⟩ := ⟨d_kinds_of, n_kinds_of, p_kinds_of, rfl, rfl, rfl, by decide, by kernel_rfl, rfl, rfl, fun K n => by kernel_rfl, bd_kinds_of⟩
theorem bd_put_in : Bd d_put_in p_put_in := ⟨fun _ _ _ _ _ _ _ us hl => match us, hl with | [_, _, _], _ => rfl, fun h => absurd rfl h⟩
theorem st_put_in : DSt hs 38 ⟨3, 9, b_put_in⟩ := ⟨d_put_in, n_put_in, p_put_in, rfl, rfl, rfl, by decide, by kernel_rfl, rfl, rfl, fun K n => by kernel_rfl, bd_put_in⟩
theorem bd_put_together : Bd d_put_together p_put_together := ⟨fun _ _ _ _ _ _ _ us hl => match us, hl with | [_, _], _ => rfl, fun h => absurd rfl h⟩
theorem st_put_together : DSt hs 39 ⟨2, 7, b_put_together⟩ := ⟨d_put_together, n_put_together, p_put_together, rfl, rfl, rfl, by decide, by kernel_rfl, rfl, rfl, fun K n => by kernel_rfl, bd_put_together⟩
theorem bd_Is___init__ : Bd d_Is___init__ p_Is___init__ := by
  refine ⟨fun h => (by cases h), fun _ n j hn hj T kV doc pm an cdv ct us its hl hi => ?_⟩
  have hj : j ≤ 1 := hj
  have hn : n + (1 - j) = 4 := hn
  have hi : its.length = 1 := hi
  by_cases e0 : j = 0
  · subst e0
    obtain rfl : n = 3 := by omega
    exact match us, its, hl, hi with | [_, _, _], [_], _, _ => ⟨_, rfl, rfl⟩
  by_cases e1 : j = 1
  · subst e1
    obtain rfl : n = 4 := by omega
    exact match us, its, hl, hi with | [_, _, _, _], [_], _, _ => ⟨_, rfl, rfl⟩
  omega
theorem st_Is___init__ : DSt hs 40 ⟨4, 4, b_Is___init__⟩ := ⟨d_Is___init__, n_Is___init__, p_Is___init__, rfl, rfl, rfl, by decide, by kernel_rfl, rfl, rfl, fun K n => by kernel_rfl, bd_Is___init__⟩
theorem bd_Is_shown : Bd d_Is_shown p_Is_shown := ⟨fun _ _ _ _ _ _ _ us hl => match us, hl with | [_], _ => rfl, fun h => absurd rfl h⟩
theorem st_Is_shown : DSt hs 41 ⟨1, 1, b_Is_shown⟩ := ⟨d_Is_shown, n_Is_shown, p_Is_shown, rfl, rfl, rfl, by decide, by kernel_rfl, rfl, rfl, fun K n => by kernel_rfl, bd_Is_shown⟩
theorem bd_Is_settled : Bd d_Is_settled p_Is_settled := ⟨fun _ _ _ _ _ _ _ us hl => match us, hl with | [_, _], _ => rfl, fun h => absurd rfl h⟩
theorem st_Is_settled : DSt hs 42 ⟨2, 3, b_Is_settled⟩ := ⟨d_Is_settled, n_Is_settled, p_Is_settled, rfl, rfl, rfl, by decide, by kernel_rfl, rfl, rfl, fun K n => by kernel_rfl, bd_Is_settled⟩
theorem bd_Not___init__ : Bd d_Not___init__ p_Not___init__ := ⟨fun _ _ _ _ _ _ _ us hl => match us, hl with | [_, _], _ => rfl, fun h => absurd rfl h⟩
theorem st_Not___init__ : DSt hs 43 ⟨2, 2, b_Not___init__⟩ := ⟨d_Not___init__, n_Not___init__, p_Not___init__, rfl, rfl, rfl, by decide, by kernel_rfl, rfl, rfl, fun K n => by kernel_rfl, bd_Not___init__⟩
theorem bd_Not_shown : Bd d_Not_shown p_Not_shown := ⟨fun _ _ _ _ _ _ _ us hl => match us, hl with | [_], _ => rfl, fun h => absurd rfl h⟩
theorem st_Not_shown : DSt hs 44 ⟨1, 1, b_Not_shown⟩ := ⟨d_Not_shown, n_Not_shown, p_Not_shown, rfl, rfl, rfl, by decide, by kernel_rfl, rfl, rfl, fun K n => by kernel_rfl, bd_Not_shown⟩
theorem bd_Not_settled : Bd d_Not_settled p_Not_settled := ⟨fun _ _ _ _ _ _ _ us hl => match us, hl with | [_, _], _ => rfl, fun h => absurd rfl h⟩
theorem st_Not_settled : DSt hs 45 ⟨2, 2, b_Not_settled⟩ := ⟨d_Not_settled, n_Not_settled, p_Not_settled, rfl, rfl, rfl, by decide, by kernel_rfl, rfl, rfl, fun K n => by kernel_rfl, bd_Not_settled⟩
theorem bd_Both___init__ : Bd d_Both___init__ p_Both___init__ := ⟨fun _ _ _ _ _ _ _ us hl => match us, hl with | [_, _, _], _ => rfl, fun h => absurd rfl h⟩
theorem st_Both___init__ : DSt hs 46 ⟨3, 3, b_Both___init__⟩ := ⟨d_Both___init__, n_Both___init__, p_Both___init__, rfl, rfl, rfl, by decide, by kernel_rfl, rfl, rfl, fun K n => by kernel_rfl, bd_Both___init__⟩
theorem bd_Both_shown : Bd d_Both_shown p_Both_shown := ⟨fun _ _ _ _ _ _ _ us hl => match us, hl with | [_], _ => rfl, fun h => absurd rfl h⟩
theorem st_Both_shown : DSt hs 47 ⟨1, 1, b_Both_shown⟩ := ⟨d_Both_shown, n_Both_shown, p_Both_shown, rfl, rfl, rfl, by decide, by kernel_rfl, rfl, rfl, fun K n => by kernel_rfl, bd_Both_shown⟩
theorem bd_Both_settled : Bd d_Both_settled p_Both_settled := ⟨fun _ _ _ _ _ _ _ us hl => match us, hl with | [_, _], _ => rfl, fun h => absurd rfl h⟩
theorem st_Both_settled : DSt hs 48 ⟨2, 3, b_Both_settled⟩ := ⟨d_Both_settled, n_Both_settled, p_Both_settled, rfl, rfl, rfl, by decide, by kernel_rfl, rfl, rfl, fun K n => by kernel_rfl, bd_Both_settled⟩
theorem bd_Either___init__ : Bd d_Either___init__ p_Either___init__ := ⟨fun _ _ _ _ _ _ _ us hl => match us, hl with | [_, _, _], _ => rfl, fun h => absurd rfl h⟩
theorem st_Either___init__ : DSt hs 49 ⟨3, 3, b_Either___init__⟩ := ⟨d_Either___init__, n_Either___init__, p_Either___init__, rfl, rfl, rfl, by decide, by kernel_rfl, rfl, rfl, fun K n => by kernel_rfl, bd_Either___init__⟩
theorem bd_Either_shown : Bd d_Either_shown p_Either_shown := ⟨fun _ _ _ _ _ _ _ us hl => match us, hl with | [_], _ => rfl, fun h => absurd rfl h⟩
theorem st_Either_shown : DSt hs 50 ⟨1, 1, b_Either_shown⟩ := ⟨d_Either_shown, n_Either_shown, p_Either_shown, rfl, rfl, rfl, by decide, by kernel_rfl, rfl, rfl, fun K n => by kernel_rfl, bd_Either_shown⟩
theorem bd_Either_settled : Bd d_Either_settled p_Either_settled := ⟨fun _ _ _ _ _ _ _ us hl => match us, hl with | [_, _], _ => rfl, fun h => absurd rfl h⟩
theorem st_Either_settled : DSt hs 51 ⟨2, 3, b_Either_settled⟩ := ⟨d_Either_settled, n_Either_settled, p_Either_settled, rfl, rfl, rfl, by decide, by kernel_rfl, rfl, rfl, fun K n => by kernel_rfl, bd_Either_settled⟩
theorem bd_Maker___init__ : Bd d_Maker___init__ p_Maker___init__ := ⟨fun _ _ _ _ _ _ _ us hl => match us, hl with | [_, _], _ => rfl, fun h => absurd rfl h⟩
theorem st_Maker___init__ : DSt hs 52 ⟨2, 4, b_Maker___init__⟩ := ⟨d_Maker___init__, n_Maker___init__, p_Maker___init__, rfl, rfl, rfl, by decide, by kernel_rfl, rfl, rfl, fun K n => by kernel_rfl, bd_Maker___init__⟩
theorem bd_Maker_put : Bd d_Maker_put p_Maker_put := ⟨fun _ _ _ _ _ _ _ us hl => match us, hl with | [_, _], _ => rfl, fun h => absurd rfl h⟩
theorem st_Maker_put : DSt hs 53 ⟨2, 2, b_Maker_put⟩ := ⟨d_Maker_put, n_Maker_put, p_Maker_put, rfl, rfl, rfl, by decide, by kernel_rfl, rfl, rfl, fun K n => by kernel_rfl, bd_Maker_put⟩
theorem bd_Maker_atom_page : Bd d_Maker_atom_page p_Maker_atom_page := ⟨fun _ _ _ _ _ _ _ us hl => match us, hl with | [_, _, _, _], _ => rfl, fun h => absurd rfl h⟩
theorem st_Maker_atom_page : DSt hs 54 ⟨4, 8, b_Maker_atom_page⟩ := ⟨d_Maker_atom_page, n_Maker_atom_page, p_Maker_atom_page, rfl, rfl, rfl, by decide, by kernel_rfl, rfl, rfl, fun K n => by kernel_rfl, bd_Maker_atom_page⟩
theorem bd_Maker_saying_pages : Bd d_Maker_saying_pages p_Maker_saying_pages := ⟨fun _ _ _ _ _ _ _ us hl => match us, hl with | [_, _, _, _], _ => rfl, fun h => absurd rfl h⟩
theorem st_Maker_saying_pages : DSt hs 55 ⟨4, 4, b_Maker_saying_pages⟩ := ⟨d_Maker_saying_pages, n_Maker_saying_pages, p_Maker_saying_pages, rfl, rfl, rfl, by decide, by kernel_rfl, rfl, rfl, fun K n => by kernel_rfl, bd_Maker_saying_pages⟩
theorem bd_Maker_check_pages : Bd d_Maker_check_pages p_Maker_check_pages := ⟨fun _ _ _ _ _ _ _ us hl => match us, hl with | [_, _, _, _], _ => rfl, fun h => absurd rfl h⟩
theorem st_Maker_check_pages : DSt hs 56 ⟨4, 6, b_Maker_check_pages⟩ := ⟨d_Maker_check_pages, n_Maker_check_pages, p_Maker_check_pages, rfl, rfl, rfl, by decide, by kernel_rfl, rfl, rfl, fun K n => by kernel_rfl, bd_Maker_check_pages⟩
theorem bd_Maker_row_pages : Bd d_Maker_row_pages p_Maker_row_pages := ⟨fun _ _ _ _ _ _ _ us hl => match us, hl with | [_, _, _], _ => rfl, fun h => absurd rfl h⟩
theorem st_Maker_row_pages : DSt hs 57 ⟨3, 5, b_Maker_row_pages⟩ := ⟨d_Maker_row_pages, n_Maker_row_pages, p_Maker_row_pages, rfl, rfl, rfl, by decide, by kernel_rfl, rfl, rfl, fun K n => by kernel_rfl, bd_Maker_row_pages⟩
theorem bd_Maker_way_pages : Bd d_Maker_way_pages p_Maker_way_pages := ⟨fun _ _ _ _ _ _ _ us hl => match us, hl with | [_, _], _ => rfl, fun h => absurd rfl h⟩
theorem st_Maker_way_pages : DSt hs 58 ⟨2, 6, b_Maker_way_pages⟩ := ⟨d_Maker_way_pages, n_Maker_way_pages, p_Maker_way_pages, rfl, rfl, rfl, by decide, by kernel_rfl, rfl, rfl, fun K n => by kernel_rfl, bd_Maker_way_pages⟩
theorem bd_Maker_aim : Bd d_Maker_aim p_Maker_aim := ⟨fun _ _ _ _ _ _ _ us hl => match us, hl with | [_, _], _ => rfl, fun h => absurd rfl h⟩
theorem st_Maker_aim : DSt hs 59 ⟨2, 4, b_Maker_aim⟩ := ⟨d_Maker_aim, n_Maker_aim, p_Maker_aim, rfl, rfl, rfl, by decide, by kernel_rfl, rfl, rfl, fun K n => by kernel_rfl, bd_Maker_aim⟩
theorem bd_Maker_sheet_start : Bd d_Maker_sheet_start p_Maker_sheet_start := ⟨fun _ _ _ _ _ _ _ us hl => match us, hl with | [_, _], _ => rfl, fun h => absurd rfl h⟩
theorem st_Maker_sheet_start : DSt hs 60 ⟨2, 2, b_Maker_sheet_start⟩ := ⟨d_Maker_sheet_start, n_Maker_sheet_start, p_Maker_sheet_start, rfl, rfl, rfl, by decide, by kernel_rfl, rfl, rfl, fun K n => by kernel_rfl, bd_Maker_sheet_start⟩
theorem bd_Maker_begin : Bd d_Maker_begin p_Maker_begin := ⟨fun _ _ _ _ _ _ _ us hl => match us, hl with | [_, _], _ => rfl, fun h => absurd rfl h⟩
theorem st_Maker_begin : DSt hs 61 ⟨2, 6, b_Maker_begin⟩ := ⟨d_Maker_begin, n_Maker_begin, p_Maker_begin, rfl, rfl, rfl, by decide, by kernel_rfl, rfl, rfl, fun K n => by kernel_rfl, bd_Maker_begin⟩
theorem bd_targets_of : Bd d_targets_of p_targets_of := ⟨fun _ _ _ _ _ _ _ us hl => match us, hl with | [_], _ => rfl, fun h => absurd rfl h⟩
theorem st_targets_of : DSt hs 62 ⟨1, 1, b_targets_of⟩ := ⟨d_targets_of, n_targets_of, p_targets_of, rfl, rfl, rfl, by decide, by kernel_rfl, rfl, rfl, fun K n => by kernel_rfl, bd_targets_of⟩
theorem bd_exchanged : Bd d_exchanged p_exchanged := ⟨fun _ _ _ _ _ _ _ us hl => match us, hl with | [_, _], _ => rfl, fun h => absurd rfl h⟩
theorem st_exchanged : DSt hs 63 ⟨2, 2, b_exchanged⟩ := ⟨d_exchanged, n_exchanged, p_exchanged, rfl, rfl, rfl, by decide, by kernel_rfl, rfl, rfl, fun K n => by kernel_rfl, bd_exchanged⟩
theorem bd_turned : Bd d_turned p_turned := ⟨fun _ _ _ _ _ _ _ us hl => match us, hl with | [_, _], _ => rfl, fun h => absurd rfl h⟩
theorem st_turned : DSt hs 64 ⟨2, 4, b_turned⟩ := ⟨d_turned, n_turned, p_turned, rfl, rfl, rfl, by decide, by kernel_rfl, rfl, rfl, fun K n => by kernel_rfl, bd_turned⟩
theorem bd_pages_of : Bd d_pages_of p_pages_of := ⟨fun _ _ _ _ _ _ _ us hl => match us, hl with | [_], _ => rfl, fun h => absurd rfl h⟩
theorem st_pages_of : DSt hs 65 ⟨1, 6, b_pages_of⟩ := ⟨d_pages_of, n_pages_of, p_pages_of, rfl, rfl, rfl, by decide, by kernel_rfl, rfl, rfl, fun K n => by kernel_rfl, bd_pages_of⟩
theorem bd_compares : Bd d_compares p_compares := ⟨fun _ _ _ _ _ _ _ us hl => match us, hl with | [_, _, _], _ => rfl, fun h => absurd rfl h⟩
theorem st_compares : DSt hs 66 ⟨3, 3, b_compares⟩ := ⟨d_compares, n_compares, p_compares, rfl, rfl, rfl, by decide, by kernel_rfl, rfl, rfl, fun K n => by kernel_rfl, bd_compares⟩
theorem bd_Run___init__ : Bd d_Run___init__ p_Run___init__ := ⟨fun _ _ _ _ _ _ _ us hl => match us, hl with | [_, _], _ => rfl, fun h => absurd rfl h⟩
theorem st_Run___init__ : DSt hs 67 ⟨2, 2, b_Run___init__⟩ := ⟨d_Run___init__, n_Run___init__, p_Run___init__, rfl, rfl, rfl, by decide, by kernel_rfl, rfl, rfl, fun K n => by kernel_rfl, bd_Run___init__⟩
theorem bd_Run_thing_of : Bd d_Run_thing_of p_Run_thing_of := ⟨fun _ _ _ _ _ _ _ us hl => match us, hl with | [_, _], _ => rfl, fun h => absurd rfl h⟩
theorem st_Run_thing_of : DSt hs 68 ⟨2, 2, b_Run_thing_of⟩ := ⟨d_Run_thing_of, n_Run_thing_of, p_Run_thing_of, rfl, rfl, rfl, by decide, by kernel_rfl, rfl, rfl, fun K n => by kernel_rfl, bd_Run_thing_of⟩
theorem bd_Run_ask : Bd d_Run_ask p_Run_ask := ⟨fun _ _ _ _ _ _ _ us hl => match us, hl with | [_, _], _ => rfl, fun h => absurd rfl h⟩
theorem st_Run_ask : DSt hs 69 ⟨2, 11, b_Run_ask⟩ := ⟨d_Run_ask, n_Run_ask, p_Run_ask, rfl, rfl, rfl, by decide, by kernel_rfl, rfl, rfl, fun K n => by kernel_rfl, bd_Run_ask⟩
theorem bd_Run_compare : Bd d_Run_compare p_Run_compare := ⟨fun _ _ _ _ _ _ _ us hl => match us, hl with | [_, _], _ => rfl, fun h => absurd rfl h⟩
theorem st_Run_compare : DSt hs 70 ⟨2, 11, b_Run_compare⟩ := ⟨d_Run_compare, n_Run_compare, p_Run_compare, rfl, rfl, rfl, by decide, by kernel_rfl, rfl, rfl, fun K n => by kernel_rfl, bd_Run_compare⟩
theorem bd_Run_total : Bd d_Run_total p_Run_total := ⟨fun _ _ _ _ _ _ _ us hl => match us, hl with | [_, _], _ => rfl, fun h => absurd rfl h⟩
theorem st_Run_total : DSt hs 71 ⟨2, 12, b_Run_total⟩ := ⟨d_Run_total, n_Run_total, p_Run_total, rfl, rfl, rfl, by decide, by kernel_rfl, rfl, rfl, fun K n => by kernel_rfl, bd_Run_total⟩
theorem bd_Run_more : Bd d_Run_more p_Run_more := ⟨fun _ _ _ _ _ _ _ us hl => match us, hl with | [_, _], _ => rfl, fun h => absurd rfl h⟩
theorem st_Run_more : DSt hs 72 ⟨2, 7, b_Run_more⟩ := ⟨d_Run_more, n_Run_more, p_Run_more, rfl, rfl, rfl, by decide, by kernel_rfl, rfl, rfl, fun K n => by kernel_rfl, bd_Run_more⟩
theorem bd_Run_tell : Bd d_Run_tell p_Run_tell := ⟨fun _ _ _ _ _ _ _ us hl => match us, hl with | [_, _], _ => rfl, fun h => absurd rfl h⟩
theorem st_Run_tell : DSt hs 73 ⟨2, 2, b_Run_tell⟩ := ⟨d_Run_tell, n_Run_tell, p_Run_tell, rfl, rfl, rfl, by decide, by kernel_rfl, rfl, rfl, fun K n => by kernel_rfl, bd_Run_tell⟩
theorem bd_Run_step : Bd d_Run_step p_Run_step := ⟨fun _ _ _ _ _ _ _ us hl => match us, hl with | [_, _], _ => rfl, fun h => absurd rfl h⟩
theorem st_Run_step : DSt hs 74 ⟨2, 3, b_Run_step⟩ := ⟨d_Run_step, n_Run_step, p_Run_step, rfl, rfl, rfl, by decide, by kernel_rfl, rfl, rfl, fun K n => by kernel_rfl, bd_Run_step⟩
theorem bd_run : Bd d_run p_run := ⟨fun _ _ _ _ _ _ _ us hl => match us, hl with | [_, _], _ => rfl, fun h => absurd rfl h⟩
theorem st_run : DSt hs 75 ⟨2, 4, b_run⟩ := ⟨d_run, n_run, p_run, rfl, rfl, rfl, by decide, by kernel_rfl, rfl, rfl, fun K n => by kernel_rfl, bd_run⟩
theorem bd_L_cell : Bd d_L_cell p_L_cell := ⟨fun _ _ _ _ _ _ _ us hl => match us, hl with | [_, _], _ => rfl, fun h => absurd rfl h⟩
theorem st_L_cell : DSt hs 76 ⟨2, 3, b_L_cell⟩ := ⟨d_L_cell, n_L_cell, p_L_cell, rfl, rfl, rfl, by decide, by kernel_rfl, rfl, rfl, fun K n => by kernel_rfl, bd_L_cell⟩
theorem bd_L_name : Bd d_L_name p_L_name := ⟨fun _ _ _ _ _ _ _ us hl => match us, hl with | [_, _], _ => rfl, fun h => absurd rfl h⟩
theorem st_L_name : DSt hs 77 ⟨2, 4, b_L_name⟩ := ⟨d_L_name, n_L_name, p_L_name, rfl, rfl, rfl, by decide, by kernel_rfl, rfl, rfl, fun K n => by kernel_rfl, bd_L_name⟩
theorem bd_L_sheets : Bd d_L_sheets p_L_sheets := ⟨fun _ _ _ _ _ _ _ us hl => match us, hl with | [_], _ => rfl, fun h => absurd rfl h⟩
theorem st_L_sheets : DSt hs 78 ⟨1, 8, b_L_sheets⟩ := ⟨d_L_sheets, n_L_sheets, p_L_sheets, rfl, rfl, rfl, by decide, by kernel_rfl, rfl, rfl, fun K n => by kernel_rfl, bd_L_sheets⟩
theorem bd_L_told : Bd d_L_told p_L_told := ⟨fun _ _ _ _ _ _ _ us hl => match us, hl with | [_], _ => rfl, fun h => absurd rfl h⟩
theorem st_L_told : DSt hs 79 ⟨1, 3, b_L_told⟩ := ⟨d_L_told, n_L_told, p_L_told, rfl, rfl, rfl, by decide, by kernel_rfl, rfl, rfl, fun K n => by kernel_rfl, bd_L_told⟩
theorem bd_law : Bd d_law p_law := ⟨fun _ _ _ _ _ _ _ us hl => match us, hl with | [_], _ => rfl, fun h => absurd rfl h⟩
theorem st_law : DSt hs 80 ⟨1, 16, b_law⟩ := ⟨d_law, n_law, p_law, rfl, rfl, rfl, by decide, by kernel_rfl, rfl, rfl, fun K n => by kernel_rfl, bd_law⟩

theorem hd : ∀ f F, hs.P.fns[f]? = some F → DSt hs f F
  | 0, F, h => by
    have e := Option.some.inj h
    subst e
    exact st_WrongKind___init__
  | 1, F, h => by
    have e := Option.some.inj h
    subst e
    exact st_is_whole
  | 2, F, h => by
    have e := Option.some.inj h
    subst e
    exact st_is_name
  | 3, F, h => by
    have e := Option.some.inj h
    subst e
    exact st_are_figures
  | 4, F, h => by
    have e := Option.some.inj h
    subst e
    exact st_number_of
  | 5, F, h => by
    have e := Option.some.inj h
    subst e
    exact st_Kind___init__
  | 6, F, h => by
    have e := Option.some.inj h
    subst e
    exact st_Kind_fits
  | 7, F, h => by
    have e := Option.some.inj h
    subst e
    exact st_YesNo___init__
  | 8, F, h => by
    have e := Option.some.inj h
    subst e
    exact st_YesNo_fits
  | 9, F, h => by
    have e := Option.some.inj h
    subst e
    exact st_YesNo_shown
  | 10, F, h => by
    have e := Option.some.inj h
    subst e
    exact st_YesNo_rank
  | 11, F, h => by
    have e := Option.some.inj h
    subst e
    exact st_YesNo_told
  | 12, F, h => by
    have e := Option.some.inj h
    subst e
    exact st_Whole_fits
  | 13, F, h => by
    have e := Option.some.inj h
    subst e
    exact st_Whole_shown
  | 14, F, h => by
    have e := Option.some.inj h
    subst e
    exact st_Whole_rank
  | 15, F, h => by
    have e := Option.some.inj h
    subst e
    exact st_Whole_told
  | 16, F, h => by
    have e := Option.some.inj h
    subst e
    exact st_hundredths
  | 17, F, h => by
    have e := Option.some.inj h
    subst e
    exact st_Money_shown
  | 18, F, h => by
    have e := Option.some.inj h
    subst e
    exact st_Money_told
  | 19, F, h => by
    have e := Option.some.inj h
    subst e
    exact st_Pick___init__
  | 20, F, h => by
    have e := Option.some.inj h
    subst e
    exact st_Pick_fits
  | 21, F, h => by
    have e := Option.some.inj h
    subst e
    exact st_Pick_shown
  | 22, F, h => by
    have e := Option.some.inj h
    subst e
    exact st_Pick_rank
  | 23, F, h => by
    have e := Option.some.inj h
    subst e
    exact st_Pick_told
  | 24, F, h => by
    have e := Option.some.inj h
    subst e
    exact st_Names___init__
  | 25, F, h => by
    have e := Option.some.inj h
    subst e
    exact st_Names_fits
  | 26, F, h => by
    have e := Option.some.inj h
    subst e
    exact st_Names_shown
  | 27, F, h => by
    have e := Option.some.inj h
    subst e
    exact st_Names_rank
  | 28, F, h => by
    have e := Option.some.inj h
    subst e
    exact st_Names_told
  | 29, F, h => by
    have e := Option.some.inj h
    subst e
    exact st_whole_of
  | 30, F, h => by
    have e := Option.some.inj h
    subst e
    exact st_money_of
  | 31, F, h => by
    have e := Option.some.inj h
    subst e
    exact st_kind_of
  | 32, F, h => by
    have e := Option.some.inj h
    subst e
    exact st_Row___init__
  | 33, F, h => by
    have e := Option.some.inj h
    subst e
    exact st_Ask___init__
  | 34, F, h => by
    have e := Option.some.inj h
    subst e
    exact st_Check___init__
  | 35, F, h => by
    have e := Option.some.inj h
    subst e
    exact st_Sheet___init__
  | 36, F, h => by
    have e := Option.some.inj h
    subst e
    exact st_Paper___init__
  | 37, F, h => by
    have e := Option.some.inj h
    subst e
    exact st_kinds_of
  | 38, F, h => by
    have e := Option.some.inj h
    subst e
    exact st_put_in
  | 39, F, h => by
    have e := Option.some.inj h
    subst e
    exact st_put_together
  | 40, F, h => by
    have e := Option.some.inj h
    subst e
    exact st_Is___init__
  | 41, F, h => by
    have e := Option.some.inj h
    subst e
    exact st_Is_shown
  | 42, F, h => by
    have e := Option.some.inj h
    subst e
    exact st_Is_settled
  | 43, F, h => by
    have e := Option.some.inj h
    subst e
    exact st_Not___init__
  | 44, F, h => by
    have e := Option.some.inj h
    subst e
    exact st_Not_shown
  | 45, F, h => by
    have e := Option.some.inj h
    subst e
    exact st_Not_settled
  | 46, F, h => by
    have e := Option.some.inj h
    subst e
    exact st_Both___init__
  | 47, F, h => by
    have e := Option.some.inj h
    subst e
    exact st_Both_shown
  | 48, F, h => by
    have e := Option.some.inj h
    subst e
    exact st_Both_settled
  | 49, F, h => by
    have e := Option.some.inj h
    subst e
    exact st_Either___init__
  | 50, F, h => by
    have e := Option.some.inj h
    subst e
    exact st_Either_shown
  | 51, F, h => by
    have e := Option.some.inj h
    subst e
    exact st_Either_settled
  | 52, F, h => by
    have e := Option.some.inj h
    subst e
    exact st_Maker___init__
  | 53, F, h => by
    have e := Option.some.inj h
    subst e
    exact st_Maker_put
  | 54, F, h => by
    have e := Option.some.inj h
    subst e
    exact st_Maker_atom_page
  | 55, F, h => by
    have e := Option.some.inj h
    subst e
    exact st_Maker_saying_pages
  | 56, F, h => by
    have e := Option.some.inj h
    subst e
    exact st_Maker_check_pages
  | 57, F, h => by
    have e := Option.some.inj h
    subst e
    exact st_Maker_row_pages
  | 58, F, h => by
    have e := Option.some.inj h
    subst e
    exact st_Maker_way_pages
  | 59, F, h => by
    have e := Option.some.inj h
    subst e
    exact st_Maker_aim
  | 60, F, h => by
    have e := Option.some.inj h
    subst e
    exact st_Maker_sheet_start
  | 61, F, h => by
    have e := Option.some.inj h
    subst e
    exact st_Maker_begin
  | 62, F, h => by
    have e := Option.some.inj h
    subst e
    exact st_targets_of
  | 63, F, h => by
    have e := Option.some.inj h
    subst e
    exact st_exchanged
  | 64, F, h => by
    have e := Option.some.inj h
    subst e
    exact st_turned
  | 65, F, h => by
    have e := Option.some.inj h
    subst e
    exact st_pages_of
  | 66, F, h => by
    have e := Option.some.inj h
    subst e
    exact st_compares
  | 67, F, h => by
    have e := Option.some.inj h
    subst e
    exact st_Run___init__
  | 68, F, h => by
    have e := Option.some.inj h
    subst e
    exact st_Run_thing_of
  | 69, F, h => by
    have e := Option.some.inj h
    subst e
    exact st_Run_ask
  | 70, F, h => by
    have e := Option.some.inj h
    subst e
    exact st_Run_compare
  | 71, F, h => by
    have e := Option.some.inj h
    subst e
    exact st_Run_total
  | 72, F, h => by
    have e := Option.some.inj h
    subst e
    exact st_Run_more
  | 73, F, h => by
    have e := Option.some.inj h
    subst e
    exact st_Run_tell
  | 74, F, h => by
    have e := Option.some.inj h
    subst e
    exact st_Run_step
  | 75, F, h => by
    have e := Option.some.inj h
    subst e
    exact st_run
  | 76, F, h => by
    have e := Option.some.inj h
    subst e
    exact st_L_cell
  | 77, F, h => by
    have e := Option.some.inj h
    subst e
    exact st_L_name
  | 78, F, h => by
    have e := Option.some.inj h
    subst e
    exact st_L_sheets
  | 79, F, h => by
    have e := Option.some.inj h
    subst e
    exact st_L_told
  | 80, F, h => by
    have e := Option.some.inj h
    subst e
    exact st_law
  | n + 81, F, h => by
    have e : hs.P.fns[n + 81]? = none := List.getElem?_eq_none (by show 81 ≤ n + 81; omega)
    rw [e] at h
    cases h
end Hd
open PySem PySem.W PySem.Calls PyProof.Rows
theorem PySem.Challenge.cw_askpaper_k71_pages_of_plain_papers_holds : PySem.Challenge.rw_askpaper_k71_pages_of_plain_papers.Holds := by
  w_on; o_law
  refine HandSHeadRun.head_any (r := OpenLaw.row PySem.Challenge.rw_askpaper_k71_pages_of_plain_papers) (q := view (OpenLaw.row PySem.Challenge.rw_askpaper_k71_pages_of_plain_papers).prog [58]) (H := Hd.hk) (ob := Hd.ob) (M := 20000) (loose := Hd.names) (d := HandSHeadRun.topDef (OpenLaw.row PySem.Challenge.rw_askpaper_k71_pages_of_plain_papers).prog 58) (kwd := []) Hd.ob_eq
    (by kernel_rfl) (fun s => by kernel_rfl) Hd.run (by kernel_rfl) (by kernel_rfl) (by kernel_rfl) (by rfl) (by first | assumption | decide +kernel) (by decide +kernel) ⟨rfl, rfl, rfl, rfl, rfl, by decide +kernel⟩ ?hw ?hc
  case hw => w_witness2
  case hc =>
    refine L2.walk_ofE (l := PySem.Challenge.rw_askpaper_k71_pages_of_plain_papers) (k := 134) (x := "_law_script") (CX := fun _ _ _ _ _ _ => False) rfl (by decide) (by kernel_rfl) ⟨rfl, by decide, by decide⟩ ?F (fun _ _ _ _ z => z)
    intro w mg fa hp Y G hmg0
    have hmg : mg ("law" : PySem.Str) = some (.ref fa) := by
      have e : (HandSHeadRun.topDef (OpenLaw.row PySem.Challenge.rw_askpaper_k71_pages_of_plain_papers).prog 58).name = ("law" : PySem.Str) := by kernel_rfl
      rw [← e]
      exact hmg0
    refine Co.law_facts (h := Tx.hs) (l := PySem.Challenge.rw_askpaper_k71_pages_of_plain_papers) (n := 66) (f := Tx.f_law) (d := Tx.d_law) (N := Tx.n_law) Y G (by kernel_rfl) Hd.hd rfl rfl rfl rfl rfl (by kernel_rfl) rfl rfl (fun K n => by kernel_rfl) Hd.bd_law ?_ Hd.hrun
    intro K hK c
    have e := (Co.lk_of hK G (by kernel_rfl) c.ok).fn "law" Tx.f_law (by kernel_rfl)
    exact (Value.ref.inj (Option.some.inj (hmg.symm.trans e)))

