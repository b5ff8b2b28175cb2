import PyProof.Rows.All
import Wide.All
import OpenK.AllK
import Wide.FinOn
import HandS.ForMost
import HandS.Exc
import HandS.TryOnly
import HandS.ExcOwn
import HandS.WordsExc
import HandS.Walk
import HandS.Wide
import HandS.TupAny
import PyProof.StrBlock2
import HandS.Style
import HandS.IsInst
import HandS.Replace
import HandS.StrMore
import KE.KRevSl
import KE.GoesMore
import PyProof.LongRange
import HandS.SortKw
import KE.DatumOrd
import HandS.ExcInit
import HandS.ExcField
import HandS.Defaults
import KE.KExcIs
import HandS.ExcIs
import HandS.Small
import HandS.Rev
import HandS.MapObj
import HandS.SortInts
import PySem.Challenge.RW_neveragain_k65_whole_behind_keeps
set_option Elab.async false
set_option linter.all false
/-! Sem: plain data and what statements and expressions do to it. No heap here. -/
namespace NV

/-- the longest list, the longest text -/
def line : Nat := 16777216
/-- a bound for numbers: two of them may be multiplied -/
def big : Nat := 2 ^ 100000

inductive D where
  | non
  | bl (b : Bool)
  | int (i : Int)
  | str (s : List Nat)
  | tup (xs : List D)
  | lst (xs : List D)
  | dct (es : List (List Nat × D))
  | obj (c : Nat) (fs : List (List Nat × D))
  | exc (k : Nat) (m : List D)
  | scr (xs : List D)

mutual
def D.eqv : D → D → Bool
  | .non, .non => true
  | .bl a, .bl b => a == b
  | .bl a, .int j => (if a then 1 else 0) == j
  | .int i, .bl b => i == (if b then 1 else 0)
  | .int i, .int j => i == j
  | .str s, .str t => s == t
  | .tup xs, .tup ys => D.eqvs xs ys
  | .lst xs, .lst ys => D.eqvs xs ys
  | _, _ => false
def D.eqvs : List D → List D → Bool
  | [], [] => true
  | x :: xs, y :: ys => D.eqv x y && D.eqvs xs ys
  | _, _ => false
end
mutual
/-- no dict or instance within, at most so deep -/
def D.lv : Nat → D → Bool
  | _, .non => true
  | _, .bl _ => true
  | _, .int _ => true
  | _, .str s => s.all fun c => decide (c < 1114112)
  | 0, .tup _ => false
  | 0, .lst _ => false
  | n + 1, .tup xs => D.lvs n xs
  | n + 1, .lst xs => D.lvs n xs
  | _, .dct _ => false
  | _, .obj _ _ => false
  | _, .exc _ _ => false
  | _, .scr _ => false
def D.lvs : Nat → List D → Bool
  | _, [] => true
  | n, x :: xs => D.lv n x && D.lvs n xs
end
theorem D.lvs_all (n : Nat) : ∀ xs : List D, D.lvs n xs = xs.all (D.lv n)
  | [] => rfl
  | x :: xs => by rw [D.lvs, List.all_cons, D.lvs_all n xs]
/-- no address in it -/
def D.flat : D → Bool
  | .non => true
  | .bl _ => true
  | .int _ => true
  | .str _ => true
  | _ => false

/-- a slot: forgotten; a value; a list or dict that the def may still change; one that its caller lent -/
inductive Sl where
  | un
  | v (d : D)
  | o (d : D)
  | io (k : Nat) (d : D)
abbrev Env := List Sl
/-- an exception: its class by number, its field -/
structure Exn where
  k : Nat
  m : List D
inductive Res (α : Type) where
  | ok (a : α) (ρ : Env)
  | rz (x : Exn) (ρ : Env)
  | st
namespace Res
variable {α β : Type}
def bind (r : Res α) (f : α → Env → Res β) : Res β :=
  match r with
  | .ok a ρ => f a ρ
  | .rz x ρ => .rz x ρ
  | .st => .st
@[simp] theorem bind_ok (a : α) (ρ : Env) (f : α → Env → Res β) : bind (.ok a ρ) f = f a ρ := id rfl
@[simp] theorem bind_rz (x : Exn) (ρ : Env) (f : α → Env → Res β) : bind (.rz x ρ) f = .rz x ρ := id rfl
@[simp] theorem bind_st (f : α → Env → Res β) : bind .st f = .st := id rfl
end Res
abbrev Ev := Env → Res D
abbrev Eo := Env → Res Sl
abbrev Ea := Env → Res (List D)
inductive Fl where
  | nx
  | brk
  | cnt
  | ret (r : Sl)
abbrev Es := Env → Res Fl
/-- a def: the arguments' slots in, what it hands back and the lent slots out -/
abbrev Df := Env → Res Sl

def out (o : Option D) (ρ : Env) : Res D := match o with
  | some d => .ok d ρ
  | none => .st
@[simp] theorem out_some (d : D) (ρ : Env) : out (some d) ρ = .ok d ρ := id rfl
@[simp] theorem out_none (ρ : Env) : out none ρ = .st := id rfl
def outB (o : Option Bool) : Option D := o.map D.bl
@[simp] theorem outB_some (b : Bool) : outB (some b) = some (.bl b) := id rfl
@[simp] theorem outB_none : outB none = none := id rfl

/-! ### operators -/
def opAdd : D → D → Option D
  | .int i, .int j => some (.int (i + j))
  | .str s, .str t => if s.length + t.length ≤ line then some (.str (s ++ t)) else none
  | .lst xs, .lst ys => if xs.length + ys.length ≤ line then some (.lst (xs ++ ys)) else none
  | .tup xs, .tup ys => if xs.length + ys.length ≤ line then some (.tup (xs ++ ys)) else none
  | _, _ => none
def opIAdd : D → D → Option D
  | .int i, .int j => some (.int (i + j))
  | _, _ => none
def opSub : D → D → Option D
  | .int i, .int j => some (.int (i - j))
  | _, _ => none
def mulOk (i j : Int) : Bool := decide (i.natAbs < big) && decide (j.natAbs < big)
def opMul : D → D → Option D
  | .int i, .int j => if mulOk i j then some (.int (i * j)) else none
  | .lst xs, .int k => if -9223372036854775808 ≤ k ∧ k < 9223372036854775808 ∧ xs.length * k.toNat ≤ line then some (.lst (List.replicate k.toNat xs).flatten) else none
  | .str s, .int k => if 0 ≤ k ∧ k < 2147483648 ∧ s.length * k.toNat ≤ line then some (.str (List.replicate k.toNat s).flatten) else none
  | _, _ => none
/-- xs * n, of a list alone -/
def opRep : D → D → Option D
  | .lst xs, .int k => opMul (.lst xs) (.int k)
  | _, _ => none
def opMod : D → D → Option D
  | .int i, .int j => if 0 < j then some (.int (i % j)) else none
  | _, _ => none
def opDiv : D → D → Option D
  | .int i, .int j => if 0 < j ∧ j.natAbs < 2 ^ 8000 then some (.int (i / j)) else none
  | _, _ => none
def opPow : D → D → Option D
  | .int i, .int j => if 0 ≤ j ∧ ((j ≤ 1000000 ∧ i.natAbs < 18446744073709551616) ∨ (j ≤ 1000 ∧ i.natAbs < big)) then some (.int (i ^ j.toNat)) else none
  | _, _ => none
def opNeg : D → Option D
  | .int i => some (.int (-i))
  | _ => none
def opNot : D → Option D
  | .bl b => some (.bl (!b))
  | _ => none
def opEq (a b : D) : Option D := if D.lv 12 a && D.lv 12 b then some (.bl (D.eqv a b)) else none
def opNe (a b : D) : Option D := if D.lv 12 a && D.lv 12 b then some (.bl (!D.eqv a b)) else none
def opLt : D → D → Option D
  | .int i, .int j => some (.bl (decide (i < j)))
  | _, _ => none
def opLe : D → D → Option D
  | .int i, .int j => some (.bl (decide (i ≤ j)))
  | _, _ => none
def opGt : D → D → Option D
  | .int i, .int j => some (.bl (decide (j < i)))
  | _, _ => none
def opGe : D → D → Option D
  | .int i, .int j => some (.bl (decide (j ≤ i)))
  | _, _ => none
/-- is None -/
def opIsN : D → Option D
  | .non => some (.bl true)
  | .bl _ => some (.bl false)
  | .int _ => some (.bl false)
  | .str _ => some (.bl false)
  | .tup _ => some (.bl false)
  | .lst _ => some (.bl false)
  | .dct _ => some (.bl false)
  | .obj _ _ => some (.bl false)
  | .exc _ _ => some (.bl false)
  | .scr _ => some (.bl false)
def opNotN : D → Option D
  | .non => some (.bl false)
  | .bl _ => some (.bl true)
  | .int _ => some (.bl true)
  | .str _ => some (.bl true)
  | .tup _ => some (.bl true)
  | .lst _ => some (.bl true)
  | .dct _ => some (.bl true)
  | .obj _ _ => some (.bl true)
  | .exc _ _ => some (.bl true)
  | .scr _ => some (.bl true)
/-- is None: the right side is None -/
def opIs (a b : D) : Option D := match b with
  | .non => opIsN a
  | .bl y => match a with
    | .bl x => some (.bl (decide (x = y)))
    | _ => none
  | _ => none
def opIsNot (a b : D) : Option D := match b with
  | .non => opNotN a
  | .bl y => match a with
    | .bl x => some (.bl (!decide (x = y)))
    | _ => none
  | _ => none
/-- what a dict holds at a text -/
def look (k : List Nat) : List (List Nat × D) → Option D
  | [] => none
  | (x, d) :: r => if x = k then some d else look k r
def put (k : List Nat) (v : D) (es : List (List Nat × D)) : List (List Nat × D) :=
  if (look k es).isSome = true then es.map fun p => if p.1 = k then (p.1, v) else p else es ++ [(k, v)]
def opIn : D → D → Option D
  | .str [c], .str t => some (.bl (decide (c ∈ t)))
  | .str s, .dct es => some (.bl (look s es).isSome)
  | d, .lst xs => if D.flat d && xs.all D.flat then some (.bl (xs.any fun y => D.eqv y d)) else none
  | d, .tup xs => if D.flat d && xs.all D.flat then some (.bl (xs.any fun y => D.eqv y d)) else none
  | _, _ => none
def opNotIn (a b : D) : Option D := match opIn a b with
  | some (.bl c) => some (.bl (!c))
  | _ => none

/-! ### subscripts, slices -/
/-- the place that an index means -/
def ixN (n : Nat) (i : Int) : Option Nat := if 0 ≤ i then (if i < n then some i.toNat else none) else if -(n : Int) ≤ i then some (i + n).toNat else none
def at? {α : Type} (xs : List α) (i : Int) : Option α := (ixN xs.length i).bind fun j => xs[j]?
def opIx : D → D → Option D
  | .scr xs, .int i => at? xs i
  | .lst xs, .int i => at? xs i
  | .tup xs, .int i => at? xs i
  | .str s, .int i => if s.length ≤ line then (at? s i).map fun c => .str [c] else none
  | .dct es, .str k => look k es
  | _, _ => none
/-- a slice's bound, brought into 0 .. n; d where it is left out -/
def clip (n d : Nat) : Option Int → Nat
  | none => d
  | some i => if i < 0 then (i + n).toNat else min i.toNat n
def cut {α : Type} (xs : List α) (lo hi : Option Int) : List α := (xs.drop (clip xs.length 0 lo)).take (clip xs.length xs.length hi - clip xs.length 0 lo)
def opCut (d : D) (lo hi : Option Int) : Option D := match d with
  | .str s => if s.length ≤ line then some (.str (cut s lo hi)) else none
  | .lst xs => some (.lst (cut xs lo hi))
  | .scr xs => some (.lst (cut xs lo hi))
  | .tup xs => some (.tup (cut xs lo hi))
  | _ => none
def asInt : D → Option Int
  | .int i => some i
  | _ => none

/-! ### built-ins -/
def opLen : D → Option D
  | .str s => if s.length ≤ line then some (.int s.length) else none
  | .lst xs => some (.int xs.length)
  | .scr xs => some (.int xs.length)
  | .tup xs => some (.int xs.length)
  | _ => none
/-- all intsD -/
def intsD : List D → Option (List Int)
  | [] => some []
  | .int i :: r => (intsD r).map (i :: ·)
  | _ :: _ => none
def strsD : List D → Option (List (List Nat))
  | [] => some []
  | .str s :: r => (strsD r).map (s :: ·)
  | _ :: _ => none
def opSum : D → Option D
  | .lst xs => (intsD xs).map fun ns => .int ns.sum
  | _ => none
def opMaxL : D → Option D
  | .lst xs => ((intsD xs).bind (·.max?)).map .int
  | _ => none
def opMinL : D → Option D
  | .lst xs => ((intsD xs).bind (·.min?)).map .int
  | _ => none
def opMax2 : D → D → Option D
  | .int i, .int j => some (.int (if j > i then j else i))
  | _, _ => none
def opMin2 : D → D → Option D
  | .int i, .int j => some (.int (if j < i then j else i))
  | _, _ => none
def opAbs : D → Option D
  | .int i => some (.int (if i < 0 then -i else i))
  | _ => none
def opList : D → Option D
  | .scr xs => some (.lst xs)
  | .lst xs => some (.lst xs)
  | .tup xs => some (.lst xs)
  | _ => none
def opTuple : D → Option D
  | .lst xs => some (.tup xs)
  | .tup xs => some (.tup xs)
  | _ => none
/-- what isinstance(x, T) says: T by number: 0 str, 1 int, 2 bool, 3 list, 4 tuple -/
def opIsI (t : Nat) : D → Option D
  | .non => some (.bl false)
  | .bl _ => some (.bl (t == 1 || t == 2))
  | .int _ => some (.bl (t == 1))
  | .str _ => some (.bl (t == 0))
  | .lst _ => some (.bl (t == 3))
  | .tup _ => some (.bl (t == 4))
  | .dct _ => some (.bl false)
  | _ => none
def joinL (s : List Nat) : List (List Nat) → List Nat
  | [] => []
  | [x] => x
  | x :: y :: r => x ++ s ++ joinL s (y :: r)
def opJoin : D → D → Option D
  | .str s, .lst xs => (strsD xs).bind fun ys => if (ys.map List.length).sum + ys.length * s.length ≤ line then some (.str (joinL s ys)) else none
  | .str s, .tup xs => (strsD xs).bind fun ys => if (ys.map List.length).sum + ys.length * s.length ≤ line then some (.str (joinL s ys)) else none
  | _, _ => none
def opIndex : D → D → Option D
  | .str s, .str [c] => if s.length ≤ line ∧ c ∈ s then some (.int (s.idxOf c)) else none
  | _, _ => none
def opCount : D → D → Option D
  | .str s, .str [c] => some (.int (s.count c))
  | _, _ => none
def opStarts : D → D → Option D
  | .str s, .str t => some (.bl (t.isPrefixOf s))
  | _, _ => none

/-- text[::-1] -/
def opRevS : D → Option D
  | .str s => if s.length ≤ line then some (.str s.reverse) else none
  | _ => none

/-- list[::-1] -/
def opRevL : D → Option D
  | .lst xs => some (.lst xs.reverse)
  | .scr xs => some (.lst xs.reverse)
  | _ => none

/-! ### expressions -/
def eC (d : D) : Ev := fun ρ => .ok d ρ
def eV (i : Nat) : Ev := fun ρ => match ρ[i]? with
  | some (.v d) => .ok d ρ
  | _ => .st
/-- a name whose list stays the def's own: looked at by len, sum, an index .. -/
def ePk (i : Nat) : Ev := fun ρ => match ρ[i]? with
  | some (.v d) => .ok d ρ
  | some (.o d) => .ok d ρ
  | some (.io _ d) => .ok d ρ
  | _ => .st
def e1 (g : D → Option D) (f : Ev) : Ev := fun ρ => (f ρ).bind fun a ρ => out (g a) ρ
def e2 (g : D → D → Option D) (f h : Ev) : Ev := fun ρ => (f ρ).bind fun a ρ => (h ρ).bind fun b ρ => out (g a b) ρ
def e3 (g : D → D → D → Option D) (f h l : Ev) : Ev := fun ρ => (f ρ).bind fun a ρ => (h ρ).bind fun b ρ => (l ρ).bind fun c ρ => out (g a b c) ρ
/-- a method of a text -/
def eM (g : D → D → Option D) (f h : Ev) : Ev := fun ρ => (f ρ).bind fun a ρ => match a with
  | .str s => (h ρ).bind fun b ρ => out (g (.str s) b) ρ
  | _ => .st
def eAnd (f h : Ev) : Ev := fun ρ => (f ρ).bind fun a ρ => match a with
  | .bl true => h ρ
  | .bl false => .ok (.bl false) ρ
  | _ => .st
def eOr (f h : Ev) : Ev := fun ρ => (f ρ).bind fun a ρ => match a with
  | .bl true => .ok (.bl true) ρ
  | .bl false => h ρ
  | _ => .st
def eIf (c f h : Ev) : Ev := fun ρ => (c ρ).bind fun a ρ => match a with
  | .bl true => f ρ
  | .bl false => h ρ
  | _ => .st
/-- a op1 b op2 c -/
def eChain (g1 g2 : D → D → Option D) (f h l : Ev) : Ev := fun ρ => (f ρ).bind fun a ρ => (h ρ).bind fun b ρ => (out (g1 a b) ρ).bind fun z ρ => match z with
  | .bl true => (l ρ).bind fun c ρ => out (g2 b c) ρ
  | .bl false => .ok (.bl false) ρ
  | _ => .st
/-- a slice's part -/
def pt (f : Option Ev) (ρ : Env) : Res (Option Int) := match f with
  | none => .ok none ρ
  | some f => (f ρ).bind fun a ρ => match a with
    | .int i => .ok (some i) ρ
    | _ => .st
def eCut (f : Ev) (lo hi : Option Ev) : Ev := fun ρ => (f ρ).bind fun a ρ => (pt lo ρ).bind fun l ρ => (pt hi ρ).bind fun h ρ => out (opCut a l h) ρ
def aNil : Ea := fun ρ => .ok [] ρ
def aCons (f : Ev) (r : Ea) : Ea := fun ρ => (f ρ).bind fun a ρ => (r ρ).bind fun as ρ => .ok (a :: as) ρ
/-- (a, b, ..), [a, b, ..] -/
def eTup (r : Ea) : Ev := fun ρ => (r ρ).bind fun as ρ => if as.length ≤ line then .ok (.tup as) ρ else .st
def eLst (r : Ea) : Ev := fun ρ => (r ρ).bind fun as ρ => if as.length ≤ line then .ok (.lst as) ρ else .st
/-- what may be the def's own: as a value -/
def val (f : Eo) : Ev := fun ρ => (f ρ).bind fun r ρ => match r with
  | .v d => .ok d ρ
  | .o d => .ok d ρ
  | _ => .st
/-- a fresh list that the def may go on to change -/
def own (f : Ev) : Eo := fun ρ => (f ρ).bind fun d ρ => .ok (.o d) ρ
def ov (f : Ev) : Eo := fun ρ => (f ρ).bind fun d ρ => .ok (.v d) ρ

/-! ### environments -/
def wipeE (ρ : Env) : List Nat → Env
  | [] => ρ
  | i :: r => (wipeE ρ r).set i .un
/-- an own list given up: it is a value from here on -/
def frz1 (ρ : Env) (i : Nat) : Env := match ρ[i]? with
  | some (.o d) => ρ.set i (.v d)
  | _ => ρ
def Sl.frz : Sl → Sl
  | .o d => .v d
  | .io _ d => .v d
  | s => s
/-- f looks at all slots as at values, and hands on nothing of them -/
def eThaw (f : Ev) : Ev := fun ρ => match f (ρ.map Sl.frz) with
  | .ok d _ => if d.flat then .ok d ρ else .st
  | _ => .st
def eFrz (i : Nat) (f : Ev) : Ev := fun ρ => f (frz1 ρ i)
def oFrz (i : Nat) (f : Eo) : Eo := fun ρ => f (frz1 ρ i)
/-- xs + ys, of lists alone; a list's slice -/
def opCat : D → D → Option D
  | .lst xs, .lst ys => opAdd (.lst xs) (.lst ys)
  | _, _ => none
def opCutL (d : D) (lo hi : Option Int) : Option D := match d with
  | .lst xs => some (.lst (cut xs lo hi))
  | .scr xs => some (.lst (cut xs lo hi))
  | _ => none
def eCutL (f : Ev) (lo hi : Option Ev) : Ev := fun ρ => (f ρ).bind fun a ρ => (pt lo ρ).bind fun l ρ => (pt hi ρ).bind fun h ρ => out (opCutL a l h) ρ
def isO (ρ : Env) (i : Nat) : Bool := match ρ[i]? with
  | some (.o (.lst _)) => true
  | some (.io _ (.lst _)) => true
  | _ => false
def isD (ρ : Env) (i : Nat) : Bool := match ρ[i]? with
  | some (.o (.dct _)) => true
  | some (.io _ (.dct _)) => true
  | _ => false
/-- an own list or dict as it stands -/
def held (ρ : Env) (i : Nat) : Option D := match ρ[i]? with
  | some (.o d) => some d
  | some (.io _ d) => some d
  | _ => none
/-- x[a], x an own list or dict -/
def eIxO (i : Nat) (f : Ev) : Ev := fun ρ => if isO ρ i then (f ρ).bind fun k ρ => match held ρ i with
    | some (.lst xs) => out (opIx (.lst xs) k) ρ
    | _ => .st
  else if isD ρ i then (f ρ).bind fun k ρ => match held ρ i with
    | some (.dct es) => out (opIx (.dct es) k) ρ
    | _ => .st
  else .st

/-! ### calls -/
def eCall (s : Df) (as : Ea) : Eo := fun ρ => (as ρ).bind fun ds ρ => match s (ds.map .v) with
  | .ok r _ => .ok r ρ
  | .rz x _ => .rz x ρ
  | .st => .st
/-- the first argument is an own list, lent -/
def eCallD (s : Df) (i : Nat) (as : Ea) : Eo := fun ρ => if (held ρ i).isSome = false then .st else (as ρ).bind fun ds ρ => match ρ[i]? with
  | some (.o d) => match s (.io 0 d :: ds.map .v) with
    | .ok r (.io _ e :: _) => .ok r (ρ.set i (.o e))
    | .rz x (.io _ e :: _) => .rz x (ρ.set i (.o e))
    | _ => .st
  | some (.io k d) => match s (.io 0 d :: ds.map .v) with
    | .ok r (.io _ e :: _) => .ok r (ρ.set i (.io k e))
    | .rz x (.io _ e :: _) => .rz x (ρ.set i (.io k e))
    | _ => .st
  | _ => .st
/-- behind the body: what the lent slots hold -/
def lent : Env → Env → Env
  | [], _ => []
  | .v d :: as, ρ => .v d :: lent as ρ.tail
  | .io k _ :: as, ρ => (match ρ.head? with
    | some (.io j e) => if k = j then .io k e else .un
    | _ => .un) :: lent as ρ.tail
  | .o _ :: as, ρ => .un :: lent as ρ.tail
  | .un :: as, ρ => .un :: lent as ρ.tail
def run (n k : Nat) (g : Es) : Df := fun as => if as.length = n then (match g (as ++ List.replicate k .un) with
    | .ok (.ret r) ρ => .ok r (lent as ρ)
    | .ok .nx ρ => .ok (.v .non) (lent as ρ)
    | .ok _ _ => .st
    | .rz x ρ => .rz x (lent as ρ)
    | .st => .st) else .st

/-! ### what is walked -/
abbrev Ei := Env → Res (List D)
def itD : D → Option (List D)
  | .scr xs => some xs
  | .lst xs => some xs
  | .tup xs => some xs
  | .str s => some (s.map fun c => .str [c])
  | _ => none
def outL (o : Option (List D)) (ρ : Env) : Res (List D) := match o with
  | some d => .ok d ρ
  | none => .st
@[simp] theorem outL_some (d : List D) (ρ : Env) : outL (some d) ρ = .ok d ρ := id rfl
@[simp] theorem outL_none (ρ : Env) : outL none ρ = .st := id rfl
def iE (f : Ev) : Ei := fun ρ => (f ρ).bind fun d ρ => outL (itD d) ρ
def rng (a b : Int) : List D := (List.range (b - a).toNat).map fun (i : Nat) => D.int (a + (i : Int))
/-- fits a range -/
def inR (b : Int) : Bool := decide (-4611686018427387904 ≤ b) && decide (b < 4611686018427387904)
def iR1 (f : Ev) : Ei := fun ρ => (f ρ).bind fun d ρ => match d with
  | .int b => if inR b then .ok (rng 0 b) ρ else .st
  | _ => .st
def iR2 (f h : Ev) : Ei := fun ρ => (f ρ).bind fun a ρ => (h ρ).bind fun b ρ => match a, b with
  | .int a, .int b => if inR a && inR b then .ok (rng a b) ρ else .st
  | _, _ => .st
def iZip (f h : Ev) : Ei := fun ρ => (f ρ).bind fun a ρ => (h ρ).bind fun b ρ => match a, b with
  | .lst xs, .lst ys => .ok (List.zipWith (fun x y => .tup [x, y]) xs ys) ρ
  | _, _ => .st
def iRev (f : Ev) : Ei := fun ρ => (f ρ).bind fun a ρ => match a with
  | .lst xs => .ok xs.reverse ρ
  | _ => .st
def enumL : Nat → List D → List D
  | _, [] => []
  | n, x :: r => .tup [.int n, x] :: enumL (n + 1) r
def iEnum (f : Ev) : Ei := fun ρ => (f ρ).bind fun a ρ => match a with
  | .lst xs => .ok (enumL 0 xs) ρ
  | _ => .st
/-- a target: a name, or names in brackets -/
inductive Tg where
  | n (i : Nat)
  | t (is : List Nat)
def setAll : List Nat → List D → Env → Option Env
  | [], [], ρ => some ρ
  | i :: is, x :: xs, ρ => setAll is xs (ρ.set i (.v x))
  | _, _, _ => none
def Tg.put (g : Tg) (x : D) (ρ : Env) : Option Env := match g with
  | .n i => some (ρ.set i (.v x))
  | .t is => match x with
    | .tup xs => setAll is xs ρ
    | .lst xs => setAll is xs ρ
    | _ => none

/-! ### comprehensions -/
def compL (g : Tg) (ws : List Nat) (c : Option Ev) (f : Ev) : List D → List D → Env → Res (List D)
  | [], acc, ρ => .ok acc ρ
  | x :: r, acc, ρ => match g.put x (wipeE ρ ws) with
    | none => .st
    | some ρ1 => match c with
      | none => (f ρ1).bind fun d ρ2 => if acc.length < line then compL g ws c f r (acc ++ [d]) ρ2 else .st
      | some c' => (c' ρ1).bind fun b ρ2 => match b with
        | .bl true => (f ρ2).bind fun d ρ3 => if acc.length < line then compL g ws c f r (acc ++ [d]) ρ3 else .st
        | .bl false => compL g ws c f r acc ρ2
        | _ => .st
/-- the block's own names stand again as they did -/
def unwipe (ρ0 ρ : Env) : List Nat → Env
  | [] => ρ
  | i :: r => (unwipe ρ0 ρ r).set i (match ρ0[i]? with
    | some (.v d) => .v d
    | _ => .un)
/-- ws: the block's own names; no exception may leave it -/
def eComp (g : Tg) (ws : List Nat) (it : Ei) (c : Option Ev) (f : Ev) : Ev := fun ρ => (it ρ).bind fun xs ρ1 => match compL g ws c f xs [] ρ1 with
  | .ok ds ρ2 => .ok (.lst ds) (unwipe ρ1 ρ2 ws)
  | _ => .st

/-- .. kept as the def's own -/
def oComp (g : Tg) (ws : List Nat) (it : Ei) (cnd : Option Ev) (f : Ev) : Eo := NV.own (eComp g ws it cnd f)

/-! ### statements -/
def sNx : Es := fun ρ => .ok .nx ρ
def sSq (a b : Es) : Es := fun ρ => match a ρ with
  | .ok .nx ρ => b ρ
  | r => r
def sSet (i : Nat) (f : Ev) : Es := fun ρ => (f ρ).bind fun d ρ => .ok .nx (ρ.set i (.v d))
/-- a fresh list kept as the def's own -/
def sOwn (i : Nat) (f : Eo) : Es := fun ρ => (f ρ).bind fun r ρ => .ok .nx (ρ.set i r)
def sTg (g : Tg) (f : Ev) : Es := fun ρ => (f ρ).bind fun d ρ => match g.put d ρ with
  | some ρ => .ok .nx ρ
  | none => .st
/-- x op= e -/
def sAug (i : Nat) (g : D → D → Option D) (f : Ev) : Es := fun ρ => match ρ[i]? with
  | some (.v a) => (f ρ).bind fun b ρ => (out (g a b) ρ).bind fun d ρ => .ok .nx (ρ.set i (.v d))
  | _ => .st
def sPar (i j : Nat) (f : Ea) : Es := fun ρ => (f ρ).bind fun ds ρ => match ds with
  | [a, b] => .ok .nx ((ρ.set i (.v a)).set j (.v b))
  | _ => .st
def eDct0 : Ev := fun ρ => .ok (.dct []) ρ
def sIf (c : Ev) (a b : Es) : Es := fun ρ => (c ρ).bind fun d ρ => match d with
  | .bl true => a ρ
  | .bl false => b ρ
  | _ => .st
def sRet (f : Ev) : Es := fun ρ => (f ρ).bind fun d ρ => .ok (.ret (.v d)) ρ
def sRetO (f : Eo) : Es := fun ρ => (f ρ).bind fun r ρ => .ok (.ret r) ρ
/-- return x, x the def's own list -/
def sRetN (i : Nat) : Es := fun ρ => match ρ[i]? with
  | some (.v d) => .ok (.ret (.v d)) ρ
  | some (.o d) => .ok (.ret (.o d)) (ρ.set i .un)
  | _ => .st
def sBrk : Es := fun ρ => .ok .brk ρ
def sCnt : Es := fun ρ => .ok .cnt ρ
def sDrop (f : Ev) : Es := fun ρ => (f ρ).bind fun _ ρ => .ok .nx ρ
def sSt : Es := fun _ => .st
/-- what an own list or dict becomes -/
def chg (i : Nat) (h : D → Option D) (ρ : Env) : Res Fl := match ρ[i]? with
  | some (.o d) => match h d with
    | some d' => .ok .nx (ρ.set i (.o d'))
    | none => .st
  | some (.io k d) => match h d with
    | some d' => .ok .nx (ρ.set i (.io k d'))
    | none => .st
  | _ => .st
def hAppend (x : D) : D → Option D
  | .lst xs => if xs.length < line then some (.lst (xs ++ [x])) else none
  | _ => none
def hExtend (x : D) : D → Option D
  | .lst xs => match x with
    | .lst ys => if xs.length + ys.length ≤ line then some (.lst (xs ++ ys)) else none
    | _ => none
  | _ => none
def hSetL (i x : D) : D → Option D
  | .lst xs => match i with
    | .int i => (ixN xs.length i).map fun j => .lst (xs.set j x)
    | _ => none
  | _ => none
def hSetD (i x : D) : D → Option D
  | .dct es => match i with
    | .str k => if es.length < line then some (.dct (put k x es)) else none
    | _ => none
  | _ => none
def hClear : D → Option D
  | .lst _ => some (.lst [])
  | _ => none
def hRev : D → Option D
  | .lst xs => some (.lst xs.reverse)
  | _ => none
def sAppend (i : Nat) (f : Ev) : Es := fun ρ => if isO ρ i then (f ρ).bind fun d ρ => chg i (hAppend d) ρ else .st
def sExtend (i : Nat) (f : Ev) : Es := fun ρ => if isO ρ i then (f ρ).bind fun d ρ => chg i (hExtend d) ρ else .st
/-- xs[a] = f: f first -/
def sSetIx (i : Nat) (a f : Ev) : Es := fun ρ => if isO ρ i then (f ρ).bind fun d ρ => (a ρ).bind fun k ρ => chg i (hSetL k d) ρ
  else if isD ρ i then (f ρ).bind fun d ρ => (a ρ).bind fun k ρ => chg i (hSetD k d) ρ else .st
/-- xs[a] op= f, xs a list -/
def sAugIx (i : Nat) (a : Ev) (g : D → D → Option D) (f : Ev) : Es := fun ρ => if isO ρ i = false then .st else (a ρ).bind fun k ρ => match held ρ i with
  | some (.lst xs) => match opIx (.lst xs) k with
    | some old => (f ρ).bind fun b ρ => (out (g old b) ρ).bind fun d ρ => chg i (hSetL k d) ρ
    | none => .st
  | _ => .st
def sClear (i : Nat) : Es := fun ρ => chg i hClear ρ
def sRevers (i : Nat) : Es := fun ρ => chg i hRev ρ
/-- xs.pop(), as a value -/
def ePop (i : Nat) : Ev := fun ρ => match ρ[i]? with
  | some (.o (.lst xs)) => match xs.getLast? with
    | some d => .ok d (ρ.set i (.o (.lst xs.dropLast)))
    | none => .st
  | some (.io k (.lst xs)) => match xs.getLast? with
    | some d => .ok d (ρ.set i (.io k (.lst xs.dropLast)))
    | none => .st
  | _ => .st

/-! ### loops; ks: the slots that no later turn asks -/
def forL (g : Tg) (ks : List Nat) (b : Es) : List D → Es
  | [], ρ => .ok .nx ρ
  | x :: r, ρ => match g.put x ρ with
    | none => .st
    | some ρ1 => match b ρ1 with
      | .ok .nx ρ2 => forL g ks b r (wipeE ρ2 ks)
      | .ok .cnt ρ2 => forL g ks b r (wipeE ρ2 ks)
      | .ok .brk ρ2 => .ok .nx (wipeE ρ2 ks)
      | r' => r'
def sFor (g : Tg) (ks : List Nat) (it : Ei) (b : Es) : Es := fun ρ => (it ρ).bind fun xs ρ => forL g ks b xs (wipeE ρ ks)
def whileL (ks : List Nat) (c : Ev) (b : Es) : Nat → Es
  | 0, _ => .st
  | n + 1, ρ => (c ρ).bind fun d ρ1 => match d with
    | .bl true => match b ρ1 with
      | .ok .nx ρ2 => whileL ks c b n (wipeE ρ2 ks)
      | .ok .cnt ρ2 => whileL ks c b n (wipeE ρ2 ks)
      | .ok .brk ρ2 => .ok .nx (wipeE ρ2 ks)
      | r' => r'
    | .bl false => .ok .nx ρ1
    | _ => .st
def fuel : Nat := 1000000
def sWhile (ks : List Nat) (c : Ev) (b : Es) : Es := fun ρ => whileL ks c b fuel (wipeE ρ ks)
end NV

set_option Elab.async false
set_option linter.all false
/-! Sem2: more of what expressions compute. -/
namespace NV
/-- what enumerate and reversed walk: a list or a text -/
def itL : D → Option (List D)
  | .lst xs => some xs
  | .str s => some (s.map fun c => .str [c])
  | _ => none
def iEnum2 (f : Ev) : Ei := fun ρ => (f ρ).bind fun a ρ => match itL a with
  | some xs => .ok (enumL 0 xs) ρ
  | none => .st
/-- "".join(reversed(a text)) -/
def opJRev : D → Option D
  | .str s => if 1 ≤ s.length ∧ s.length ≤ line then some (.str s.reverse) else none
  | _ => none
/-- sorted(whole numbers) -/
def sortI (ns : List Int) : List Int := ns.mergeSort fun a b => decide (a ≤ b)
def opSorted : D → Option D
  | .lst xs => (intsD xs).map fun ns => .lst ((sortI ns).map .int)
  | _ => none
def itR : D → Option (List D)
  | .lst xs => some xs.reverse
  | .str s => if s.length ≤ line then some (s.map fun c => .str [c]).reverse else none
  | _ => none
def iRev2 (f : Ev) : Ei := fun ρ => (f ρ).bind fun a ρ => match itR a with
  | some xs => .ok xs ρ
  | none => .st
/-- list(x), x the def's own: x stays it -/
def eListO (i : Nat) : Ev := fun ρ => match held ρ i with
  | some (.lst xs) => .ok (.lst xs) ρ
  | _ => .st
end NV
namespace NV
/-- int(x) of a number or a truth -/
def opInt : D → Option D
  | .int i => some (.int i)
  | .bl b => some (.int (if b then 1 else 0))
  | _ => none
end NV
namespace NV
/-- range(a, b), of any size -/
def iR2w (f h : Ev) : Ei := fun ρ => (f ρ).bind fun a ρ => (h ρ).bind fun b ρ => match a, b with
  | .int a, .int b => .ok (rng a b) ρ
  | _, _ => .st
end NV
namespace NV
/-! a list whose lists are changed behind the tests, and then forgotten -/
def thinD : D → Bool
  | .non => true
  | .bl _ => true
  | .int _ => true
  | .str _ => true
  | .tup xs => xs.all D.flat
  | _ => false
def thinS : Sl → Sl
  | .v d => if thinD d = true then .v d else .un
  | _ => .un
def noOwnS : Sl → Bool
  | .un => true
  | .v _ => true
  | _ => false
def sTree (i : Nat) (f : Ev) (B : Es) : Es := fun ρ => if ρ.all noOwnS = true ∧ i < ρ.length then (match f (ρ.map thinS) with
    | .ok d _ => B (ρ.set i (.v d))
    | _ => .st) else .st
def sTest (i : Nat) (f : Ev) (A B : Es) : Es := fun ρ => match f ρ with
  | .ok (.bl true) _ => (match A (ρ.set i .un) with
    | .ok (.ret r) ρ' => .ok (.ret r) ρ'
    | _ => .st)
  | .ok (.bl false) _ => B ρ
  | _ => .st
/-- x[0].append(f1), x[1][0].append(f2), x[1].append(f3), where x is two lists, the later one's first is one, and both begin with numbers -/
def sMut3 (i : Nat) (f1 f2 f3 : Ev) (B : Es) : Es := fun ρ => match ρ[i]? with
  | some (.v (.lst [.lst (.int _ :: as), .lst (.lst (.int _ :: bs) :: cs)])) => if as.length + 3 < line ∧ bs.length + 3 < line ∧ cs.length + 3 < line then
      (match f1 (ρ.set i .un), f2 (ρ.set i .un), f3 (ρ.set i .un) with
      | .ok _ _, .ok _ _, .ok _ _ => B (ρ.set i .un)
      | _, _, _ => .st) else .st
  | _ => .st
/-- x[n].append(f), where x is a tuple told and its n-th is a list; then x is forgotten -/
def tupAt (d : D) (n : Int) : Bool := match d with
  | .tup ds => (match at? ds n with
    | some (.lst es) => decide (es.length + 1 < line)
    | _ => false)
  | _ => false
def sMutT (i : Nat) (n : Int) (f : Ev) (B : Es) : Es := fun ρ => match ρ[i]? with
  | some (.v d) => if tupAt d n = true then (match f (ρ.set i .un) with
      | .ok _ _ => B (ρ.set i .un)
      | _ => .st) else .st
  | _ => .st
/-- if g: x[n].append(f) -/
def sMutIf (i : Nat) (g : Ev) (n : Int) (f : Ev) (B : Es) : Es := fun ρ => match g ρ with
  | .ok (.bl true) _ => sMutT i n f B ρ
  | .ok (.bl false) _ => B (ρ.set i .un)
  | _ => .st
end NV
namespace NV
/-! min(xs, default=None) of pairs of numbers -/
def pairsD : List D → Option (List (Int × Int))
  | [] => some []
  | .tup [.int a, .int b] :: r => (pairsD r).map ((a, b) :: ·)
  | _ :: _ => none
def ltP (p q : Int × Int) : Bool := if p.1 = q.1 then decide (p.2 < q.2) else decide (p.1 < q.1)
def minP (x : Int × Int) (xs : List (Int × Int)) : Int × Int := xs.foldl (fun a y => if ltP y a = true then y else a) x
def opMinN : D → Option D
  | .lst xs => match pairsD xs with
    | some [] => some .non
    | some (p :: ps) => some (.tup [.int (minP p ps).1, .int (minP p ps).2])
    | none => none
  | _ => none
end NV
namespace NV
/-! exceptions -/
/-- raise C(..), C the k-th own class -/
def sRaise (k : Nat) (f : Ea) : Es := fun ρ => (f ρ).bind fun ds ρ => .rz ⟨k, ds⟩ ρ
/-- try: .. except WordError as i: j = i -/
def sTryK (i j : Nat) (b : Es) : Es := fun ρ => match b ρ with
  | .rz x ρ' => .ok .nx (((ρ'.set i .un).set j (.v (.exc x.k x.m))).set i .un)
  | r => r
end NV
namespace NV
/-- is the k-th own class under the n-th (8: ValueError) -/
def subX (k n : Nat) : Bool := n == k || n == 0 || n == 8
def opIsX (ks : List Nat) (n : Nat) : D → Option D
  | .exc k _ => if k ∈ ks then some (.bl (subX k n)) else none
  | _ => none
def opIsX2 (ks : List Nat) (n m : Nat) : D → Option D
  | .exc k _ => if k ∈ ks then some (.bl (subX k n || subX k m)) else none
  | _ => none
def opMost (ks : List Nat) : D → Option D
  | .exc k [d] => if k ∈ ks then some d else none
  | _ => none
end NV

set_option Elab.async false
set_option linter.all false
set_option maxRecDepth 100000
set_option maxHeartbeats 2000000
/-! Lay1: how plain data lies in the abstract heap; what is wanted behind a result. -/
namespace NV
open PySem PySem.Spec PyProof.Rows L2
abbrev St := L2.St

def ofL (s : List Nat) : Str := ⟨s.toArray⟩
theorem ofL_len (s : List Nat) : (ofL s).length = s.length := by
  show s.toArray.size = s.length
  exact List.size_toArray
theorem ofL_cps (s : List Nat) : (ofL s).cps.toList = s := by
  show s.toArray.toList = s
  simp
theorem ofL_inj {s t : List Nat} (h : ofL s = ofL t) : s = t := by
  have := congrArg (fun z => z.cps.toList) h
  simpa [ofL_cps] using this
theorem str_ofL (z : Str) : z = ofL z.cps.toList := by
  cases z with
  | mk a => simp [ofL]

/-- the own classes' names, as the semantics counts them -/
def excNm : Nat → Str
  | 0 => "WordError"
  | 1 => "NoRule"
  | 2 => "NoStart"
  | 3 => "NoPiece"
  | 4 => "NotMixed"
  | 5 => "NoShares"
  | 6 => "NoRow"
  | _ => "TooGreat"
def ExcAt (K : PySem.W.Frag) (k : Nat) (C : Addr) : Prop := PySem.W.nsIn K mainGlobals (excNm k) = some (some (.ref C))
/-- the fields of an exception: none and no dict, or the field most in its dict -/
def ExF (H : Hp) (dd : Option Addr) (vs : List V) : Prop := (vs = [] ∧ dd = none) ∨ ∃ (v : V) (d : Addr), vs = [v] ∧ dd = some d ∧ H d = some (.xd [(("most" : Str), v)])
theorem ExF.mono {H H' : Hp} {dd : Option Addr} {vs : List V} (m : Same H H') (h : ExF H dd vs) : ExF H' dd vs := by
  rcases h with h | ⟨v, d, e1, e2, e3⟩
  · exact .inl h
  · exact .inr ⟨v, d, e1, e2, m _ _ e3⟩
/-- a caught exception -/
def exv (cls : Value) (d : Option Addr) (a : Addr) : HO := .ext fun h => ∃ oe vs, h.get? a = some oe ∧ Zc cls d oe ∧ oe.data = .fields vs
mutual
inductive Rep (K : PySem.W.Frag) (H : Hp) : V → D → Prop
  | non : Rep K H .non .non
  | bl (b : Bool) : Rep K H (.bl b) (.bl b)
  | int (i : Int) : Rep K H (.int i) (.int i)
  | str (s : List Nat) : Rep K H (.str (ofL s)) (.str s)
  | tup {a : Addr} {xs : List V} {ds : List D} : SqT K H a xs → Reps K H xs ds → Rep K H (.ref a) (.tup ds)
  | lst {a : Addr} {xs : List V} {ds : List D} : H a = some (.lst xs) → Reps K H xs ds → Rep K H (.ref a) (.lst ds)
  | scr {a : Addr} {xs : List V} {ds : List D} : SqL K H a xs → Reps K H xs ds → Rep K H (.ref a) (.scr ds)
  | dct {a : Addr} {kvs : List (Key × V)} {es : List (List Nat × D)} : H a = some (.dK kvs) → RepK K H kvs es → Rep K H (.ref a) (.dct es)
  | exc {a C : Addr} {dd : Option Addr} {k : Nat} {ms : List D} {vs : List V} : ExcAt K k C → H a = some (exv (.ref C) dd a) → ExF H dd vs → Reps K H vs ms → Rep K H (.ref a) (.exc k ms)
inductive Reps (K : PySem.W.Frag) (H : Hp) : List V → List D → Prop
  | nil : Reps K H [] []
  | cons {v : V} {vs : List V} {d : D} {ds : List D} : Rep K H v d → Reps K H vs ds → Reps K H (v :: vs) (d :: ds)
inductive RepK (K : PySem.W.Frag) (H : Hp) : List (Key × V) → List (List Nat × D) → Prop
  | nil : RepK K H [] []
  | cons {k : List Nat} {v : V} {vs : List (Key × V)} {d : D} {ds : List (List Nat × D)} : Rep K H v d → RepK K H vs ds → RepK K H ((.inr (ofL k), v) :: vs) ((k, d) :: ds)
end
theorem Same.tupS {K : PySem.W.Frag} {H H' : Hp} {a : Addr} {xs : List V} (e : Same H H') (h : SqT K H a xs) : SqT K H' a xs := by
  rcases h with (h | ⟨o, h⟩) | h
  · exact .inl (.inl (e _ _ h))
  · exact .inl (.inr ⟨o, e _ _ h⟩)
  · exact .inr h
section
variable {K : PySem.W.Frag} {H H' : Hp}
mutual
theorem Rep.mono (m : Same H H') : ∀ (d : D) (v : V), Rep K H v d → Rep K H' v d
  | .non, _, h => by cases h; exact .non
  | .bl b, _, h => by cases h; exact .bl b
  | .int i, _, h => by cases h; exact .int i
  | .str s, _, h => by cases h; exact .str s
  | .tup ds, _, h => by
    cases h with
    | tup h1 h2 => exact .tup (Same.tupS m h1) (Reps.mono m ds _ h2)
  | .lst ds, _, h => by
    cases h with
    | lst h1 h2 => exact .lst (m _ _ h1) (Reps.mono m ds _ h2)
  | .scr ds, _, h => by
    cases h with
    | scr h1 h2 => exact .scr (m.seq h1) (Reps.mono m ds _ h2)
  | .dct es, _, h => by
    cases h with
    | dct h1 h2 => exact .dct (m _ _ h1) (RepK.mono m es _ h2)
  | .obj _ _, _, h => by cases h
  | .exc k ms, _, h => by
    cases h with
    | exc h1 h2 h3 h4 => exact .exc h1 (m _ _ h2) (h3.mono m) (Reps.mono m ms _ h4)
theorem Reps.mono (m : Same H H') : ∀ (ds : List D) (vs : List V), Reps K H vs ds → Reps K H' vs ds
  | [], _, h => by cases h; exact .nil
  | d :: ds, _, h => by
    cases h with
    | cons h1 h2 => exact .cons (Rep.mono m d _ h1) (Reps.mono m ds _ h2)
theorem RepK.mono (m : Same H H') : ∀ (es : List (List Nat × D)) (kvs : List (Key × V)), RepK K H kvs es → RepK K H' kvs es
  | [], _, h => by cases h; exact .nil
  | (k, d) :: es, _, h => by
    cases h with
    | cons h1 h2 => exact .cons (Rep.mono m d _ h1) (RepK.mono m es _ h2)
end
theorem Reps.length : ∀ {ds : List D} {vs : List V}, Reps K H vs ds → vs.length = ds.length
  | [], _, h => by cases h; rfl
  | d :: ds, _, h => by
    cases h with
    | cons h1 h2 => simp [Reps.length h2]
theorem RepK.length : ∀ {ds : List (List Nat × D)} {vs : List (Key × V)}, RepK K H vs ds → vs.length = ds.length
  | [], _, h => by cases h; rfl
  | d :: ds, _, h => by
    cases h with
    | cons h1 h2 => simp [RepK.length h2]
theorem Reps.get : ∀ {ds : List D} {vs : List V} {i : Nat} {d : D}, Reps K H vs ds → ds[i]? = some d → ∃ v, vs[i]? = some v ∧ Rep K H v d
  | [], _, _, _, _, e => by simp at e
  | x :: ds, _, 0, d, h, e => by
    cases h with
    | cons h1 h2 =>
      have e' : x = d := by simpa using e
      subst e'
      exact ⟨_, rfl, h1⟩
  | x :: ds, _, i + 1, d, h, e => by
    cases h with
    | cons h1 h2 =>
      obtain ⟨v, h3, h4⟩ := Reps.get (i := i) (d := d) h2 (by simpa using e)
      exact ⟨v, by simpa using h3, h4⟩
theorem Reps.getV : ∀ {ds : List D} {vs : List V} {i : Nat} {v : V}, Reps K H vs ds → vs[i]? = some v → ∃ d, ds[i]? = some d ∧ Rep K H v d
  | [], _, _, _, h, e => by cases h; simp at e
  | x :: ds, _, 0, v, h, e => by
    cases h with
    | cons h1 h2 =>
      simp at e
      subst e
      exact ⟨_, rfl, h1⟩
  | x :: ds, _, i + 1, v, h, e => by
    cases h with
    | cons h1 h2 =>
      obtain ⟨d, h3, h4⟩ := Reps.getV (i := i) (v := v) h2 (by simpa using e)
      exact ⟨d, by simpa using h3, h4⟩
theorem Reps.append : ∀ {ds es : List D} {vs ws : List V}, Reps K H vs ds → Reps K H ws es → Reps K H (vs ++ ws) (ds ++ es)
  | [], _, _, _, h, g => by cases h; exact g
  | d :: ds, _, _, _, h, g => by
    cases h with
    | cons h1 h2 => exact .cons h1 (Reps.append h2 g)
theorem Reps.drop : ∀ {ds : List D} {vs : List V} (n : Nat), Reps K H vs ds → Reps K H (vs.drop n) (ds.drop n)
  | _, _, 0, h => h
  | [], _, n + 1, h => by cases h; exact .nil
  | d :: ds, _, n + 1, h => by
    cases h with
    | cons h1 h2 => exact Reps.drop n h2
theorem Reps.take : ∀ {ds : List D} {vs : List V} (n : Nat), Reps K H vs ds → Reps K H (vs.take n) (ds.take n)
  | _, _, 0, _ => .nil
  | [], _, n + 1, h => by cases h; exact .nil
  | d :: ds, _, n + 1, h => by
    cases h with
    | cons h1 h2 => exact .cons h1 (Reps.take n h2)
theorem Reps.set {v : V} {d : D} (r : Rep K H v d) : ∀ {ds : List D} {vs : List V} (n : Nat), Reps K H vs ds → Reps K H (vs.set n v) (ds.set n d)
  | [], _, _, h => by cases h; exact .nil
  | _ :: ds, _, 0, h => by
    cases h with
    | cons h1 h2 => exact .cons r h2
  | _ :: ds, _, n + 1, h => by
    cases h with
    | cons h1 h2 => exact .cons h1 (Reps.set r n h2)
theorem Reps.reverse {ds : List D} {vs : List V} (h : Reps K H vs ds) : Reps K H vs.reverse ds.reverse := by
  induction ds generalizing vs with
  | nil => cases h; exact .nil
  | cons d ds ih =>
    cases h with
    | cons h1 h2 =>
      rw [List.reverse_cons, List.reverse_cons]
      exact (ih h2).append (.cons h1 .nil)
theorem Rep.str_iff {v : V} {s : List Nat} (h : Rep K H v (.str s)) : v = .str (ofL s) := by cases h; rfl
theorem Rep.int_iff {v : V} {i : Int} (h : Rep K H v (.int i)) : v = .int i := by cases h; rfl
theorem Rep.bl_iff {v : V} {i : Bool} (h : Rep K H v (.bl i)) : v = .bl i := by cases h; rfl
theorem Rep.non_iff {v : V} (h : Rep K H v .non) : v = .non := by cases h; rfl
/-- a flat value leans on no heap -/
theorem Rep.flat {v : V} {d : D} (f : d.flat = true) (h : Rep K H v d) (H' : Hp) : Rep K H' v d := by
  cases d with
  | non => cases h; exact .non
  | bl b => cases h; exact .bl b
  | int i => cases h; exact .int i
  | str s => cases h; exact .str s
  | _ => exact absurd (show false = true from f) Bool.false_ne_true
end

/-! ### slots -/
def Own (K : PySem.W.Frag) (G H : Hp) (p : Addr) : D → Prop
  | .lst ds => ∃ ws, H p = some (.lst ws) ∧ Reps K G ws ds
  | .dct es => ∃ kvs, H p = some (.dK kvs) ∧ RepK K G kvs es
  | _ => False
def SlOk (K : PySem.W.Frag) (π : Nat → Addr) (G H : Hp) (s : Option (Option V)) : Sl → Prop
  | .un => True
  | .v d => ∃ w, s = some (some w) ∧ Rep K G w d
  | .o d => ∃ p, s = some (some (.ref p)) ∧ G p = none ∧ Own K G H p d
  | .io k d => s = some (some (.ref (π k))) ∧ G (π k) = none ∧ Own K G H (π k) d
def Sl.owned : Sl → Bool
  | .o _ => true
  | .io _ _ => true
  | _ => false
def Ownd (ρ : Env) (σ : St) (b : Addr) : Prop := ∃ (i : Nat) (s : Sl), ρ[i]? = some s ∧ s.owned = true ∧ σ[i]? = some (some (.ref b))
structure SE (K : PySem.W.Frag) (π : Nat → Addr) (ρ : Env) (G : Hp) (σ : St) (H : Hp) : Prop where
  sub : Same G H
  len : ρ.length = σ.length
  ok : ∀ (i : Nat) s, ρ[i]? = some s → SlOk K π G H σ[i]? s
  inj : ∀ (i j : Nat) b s t, ρ[i]? = some s → ρ[j]? = some t → s.owned = true → t.owned = true → σ[i]? = some (some (.ref b)) → σ[j]? = some (some (.ref b)) → i = j
/-- what is tracked and not the def's own to change stays as it was, and does not become so -/
def Ext (ρ : Env) (σ : St) (G H : Hp) (ρ' : Env) (σ' : St) (G' H' : Hp) : Prop := ∀ b o, H b = some o → ¬ Ownd ρ σ b → H' b = some o ∧ ¬ Ownd ρ' σ' b ∧ (G b = none → G' b = none)
theorem Ext.refl {ρ : Env} {σ : St} {G H : Hp} : Ext ρ σ G H ρ σ G H := fun _ _ h n => ⟨h, n, fun z => z⟩
theorem Ext.trans {ρ ρ1 ρ2 : Env} {σ σ1 σ2 : St} {G G1 G2 H H1 H2 : Hp} (a : Ext ρ σ G H ρ1 σ1 G1 H1) (b : Ext ρ1 σ1 G1 H1 ρ2 σ2 G2 H2) : Ext ρ σ G H ρ2 σ2 G2 H2 := fun c o h n =>
  let ⟨h1, n1, g1⟩ := a c o h n
  let ⟨h2, n2, g2⟩ := b c o h1 n1
  ⟨h2, n2, fun z => g2 (g1 z)⟩
/-- what comes of an expression whose list may stay the def's own -/
def RR (K : PySem.W.Frag) (ρ0 : Env) (σ0 : St) (H0 : Hp) (ρ' : Env) (σ' : St) (G' H' : Hp) (r : Sl) (w : V) : Prop := match r with
  | .v d => Rep K G' w d
  | .o d => ∃ p, w = .ref p ∧ G' p = none ∧ Own K G' H' p d ∧ ¬ Ownd ρ' σ' p ∧ (H0 p = none ∨ Ownd ρ0 σ0 p)
  | _ => False
/-- what a level keeps fixed: how exceptions lie, what is wanted of them -/
structure Lv where
  Z : Exn → Value → Option Addr → Hp → Prop
  W : WX

section
variable {K : PySem.W.Frag} {π : Nat → Addr} {ρ ρ1 ρ2 : Env} {G G1 G' : Hp} {σ σ1 : St} {H H1 H' : Hp} {c : Lv} {α β : Type}
theorem Own.some {p : Addr} {d : D} (h : Own K G H p d) : ∃ o, H p = some o := by
  cases d with
  | lst ds => obtain ⟨ws, e, _⟩ := h; exact ⟨_, e⟩
  | dct es => obtain ⟨ws, e, _⟩ := h; exact ⟨_, e⟩
  | _ => exact False.elim h
theorem Own.mono {p : Addr} {d : D} (h : Own K G H p d) (m : Same G G') (e : H' p = H p) : Own K G' H' p d := by
  cases d with
  | lst ds => obtain ⟨ws, h1, h2⟩ := h; exact ⟨ws, e.trans h1, Reps.mono m _ _ h2⟩
  | dct es => obtain ⟨ws, h1, h2⟩ := h; exact ⟨ws, e.trans h1, RepK.mono m _ _ h2⟩
  | _ => exact False.elim h
/-- an owned address: untracked below, there above -/
theorem SE.own (S : SE K π ρ G σ H) {b : Addr} (h : Ownd ρ σ b) : G b = none ∧ ∃ o, H b = some o := by
  obtain ⟨i, s, h1, h2, h3⟩ := h
  have k := S.ok i s h1
  cases s with
  | un => cases h2
  | v d => cases h2
  | o d =>
    obtain ⟨p, e, g, w⟩ := k
    rw [h3] at e
    cases e
    exact ⟨g, w.some⟩
  | io n d =>
    obtain ⟨e, g, w⟩ := k
    rw [h3] at e
    cases e
    exact ⟨g, w.some⟩
theorem SE.notown (S : SE K π ρ G σ H) {b : Addr} {o : HO} (h : G b = some o) : ¬ Ownd ρ σ b := fun q => by
  rw [(S.own q).1] at h
  cases h
/-- what grows without touching what is the def's own -/
structure Grow (G H G' H' : Hp) : Prop where
  g : Same G G'
  h : Same H H'
  sub : Same G' H'
  new : ∀ b o, G' b = some o → G b = some o ∨ H b = none
theorem Grow.refl (s : Same G H) : Grow G H G H := ⟨Same.refl _, Same.refl _, s, fun _ _ h => .inl h⟩
theorem Same.new {p : Addr} {o : HO} (n : H p = none) : Same H (upd H p o) := fun b x e => by
  rw [upd_ne (ne_of_none e n)]
  exact e
/-- a new object, tracked -/
theorem Grow.tr (s : Same G H) {p : Addr} {o : HO} (n : H p = none) : Grow G H (upd G p o) (upd H p o) := by
  have ng : G p = none := by
    cases e : G p with
    | none => rfl
    | some x =>
      rw [s _ _ e] at n
      cases n
  refine ⟨Same.new ng, Same.new n, fun b x e => ?_, fun b x e => ?_⟩
  · by_cases hb : b = p
    · subst hb
      rw [upd_same] at e ⊢
      exact e
    · rw [upd_ne hb] at e ⊢
      exact s _ _ e
  · by_cases hb : b = p
    · subst hb; exact .inr n
    · rw [upd_ne hb] at e
      exact .inl e
/-- a new object that is kept apart -/
theorem Grow.apart (s : Same G H) {p : Addr} {o : HO} (n : H p = none) : Grow G H G (upd H p o) :=
  ⟨Same.refl _, Same.new n, s.trans (Same.new n), fun _ _ h => .inl h⟩
theorem SE.grow (S : SE K π ρ G σ H) (g : Grow G H G' H') : SE K π ρ G' σ H' ∧ Ext ρ σ G H ρ σ G' H' := by
  have no : ∀ p, Ownd ρ σ p → G' p = none ∧ H' p = H p := fun p hp => by
    obtain ⟨h1, o, h2⟩ := S.own hp
    refine ⟨?_, (g.h _ _ h2).trans h2.symm⟩
    cases e : G' p with
    | none => rfl
    | some x =>
      rcases g.new p x e with q | q
      · rw [h1] at q; cases q
      · rw [h2] at q; cases q
  refine ⟨⟨g.sub, S.len, fun i s hs => ?_, S.inj⟩, fun b o hb n => ⟨g.h _ _ hb, n, fun z => ?_⟩⟩
  case refine_2 =>
    cases e : G' b with
    | none => rfl
    | some x =>
      rcases g.new b x e with q | q
      · rw [z] at q; cases q
      · rw [hb] at q; cases q
  have k := S.ok i s hs
  cases s with
  | un => trivial
  | v d =>
    obtain ⟨w, e, r⟩ := k
    exact ⟨w, e, r.mono g.g _⟩
  | o d =>
    obtain ⟨p, e, n, w⟩ := k
    obtain ⟨h1, h2⟩ := no p ⟨i, _, hs, rfl, e⟩
    exact ⟨p, e, h1, w.mono g.g h2⟩
  | io j d =>
    obtain ⟨e, n, w⟩ := k
    obtain ⟨h1, h2⟩ := no (π j) ⟨i, _, hs, rfl, e⟩
    exact ⟨e, h1, w.mono g.g h2⟩

/-- what is wanted behind a result -/
def Po (K : PySem.W.Frag) (c : Lv) (π : Nat → Addr) (ρ : Env) (G : Hp) (σ : St) (H : Hp) (r : Res β) (J : β → Env → Hp → Hp → Prop) : Prop := match r with
  | .ok b ρ' => ∀ G' H', Same G G' → Ext ρ σ G H ρ' σ G' H' → SE K π ρ' G' σ H' → J b ρ' G' H'
  | .rz x ρ' => ∀ cls d G' H', Same G G' → Ext ρ σ G H ρ' σ G' H' → SE K π ρ' G' σ H' → c.Z x cls d G' → c.W cls d σ H'
  | .st => False
theorem Po.step {r : Res β} {J : β → Env → Hp → Hp → Prop} (s : Same G G1) (e : Ext ρ σ G H ρ1 σ G1 H1) (h : Po K c π ρ G σ H r J) : Po K c π ρ1 G1 σ H1 r J := by
  cases r with
  | ok b ρ' => exact fun G' H' s' e' S => h G' H' (s.trans s') (e.trans e') S
  | rz x ρ' => exact fun cls d G' H' s' e' S => h cls d G' H' (s.trans s') (e.trans e') S
  | st => exact h
theorem Po.mono {r : Res β} {J J' : β → Env → Hp → Hp → Prop} (h : Po K c π ρ G σ H r J) (m : ∀ b ρ' G' H', Same G G' → Ext ρ σ G H ρ' σ G' H' → SE K π ρ' G' σ H' → J b ρ' G' H' → J' b ρ' G' H') : Po K c π ρ G σ H r J' := by
  cases r with
  | ok b ρ' => exact fun G' H' s' e' S => m b ρ' G' H' s' e' S (h G' H' s' e' S)
  | rz x ρ' => exact h
  | st => exact h
theorem Po.bind {r : Res α} {k : α → Env → Res β} {J : β → Env → Hp → Hp → Prop} (h : Po K c π ρ G σ H (r.bind k) J) : Po K c π ρ G σ H r fun a ρ1 G1 H1 => Po K c π ρ1 G1 σ H1 (k a ρ1) J := by
  cases r with
  | ok b ρ' => exact fun G' H' s' e' S => Po.step s' e' h
  | rz x ρ' => exact h
  | st => exact h
/-- now -/
theorem Po.now {b : β} {J : β → Env → Hp → Hp → Prop} (h : Po K c π ρ G σ H (.ok b ρ) J) (S : SE K π ρ G σ H) : J b ρ G H := h G H (Same.refl _) Ext.refl S
theorem Po.grow {b : β} {J : β → Env → Hp → Hp → Prop} (h : Po K c π ρ G σ H (.ok b ρ) J) (S : SE K π ρ G σ H) (g : Grow G H G' H') : J b ρ G' H' :=
  h G' H' g.g (S.grow g).2 (S.grow g).1
end

/-! ### readings -/
section
variable (K : PySem.W.Frag) (c : Lv)
def JE (Q : VK) : D → Env → Hp → Hp → Prop := fun d _ G' H' => ∀ w, Rep K G' w d → Q w H'
def JA (Q : List V → Hp → Prop) : List D → Env → Hp → Hp → Prop := fun d _ G' H' => ∀ w, Reps K G' w d → Q w H'
def JT (Q : Bool → Hp → Prop) : D → Env → Hp → Hp → Prop := fun d _ _ H' => ∃ b, d = .bl b ∧ Q b H'
def tE (f : Ev) : TE := fun σ H Q => ∃ π ρ G, SE K π ρ G σ H ∧ Po K c π ρ G σ H (f ρ) (JE K Q)
def tA (f : Ea) : TA := fun σ H Q => ∃ π ρ G, SE K π ρ G σ H ∧ Po K c π ρ G σ H (f ρ) (JA K Q)
def tT (f : Ev) : TT := fun σ H Q => ∃ π ρ G, SE K π ρ G σ H ∧ Po K c π ρ G σ H (f ρ) (JT Q)
def tO (f : Eo) : TE := fun σ H Q => ∃ π ρ G, SE K π ρ G σ H ∧ Po K c π ρ G σ H (f ρ) fun r ρ' G' H' => ∀ w, RR K ρ σ H ρ' σ G' H' r w → Q w H'
/-- a statement's -/
def PoS (π : Nat → Addr) (ρ : Env) (G : Hp) (σ : St) (H : Hp) (r : Res Fl) (D : Ends) : Prop := match r with
  | .ok .nx ρ' => ∀ σ' G' H', Same G G' → Ext ρ σ G H ρ' σ' G' H' → SE K π ρ' G' σ' H' → D.nx σ' H'
  | .ok .brk ρ' => ∀ σ' G' H', Same G G' → Ext ρ σ G H ρ' σ' G' H' → SE K π ρ' G' σ' H' → D.bk σ' H'
  | .ok .cnt ρ' => ∀ σ' G' H', Same G G' → Ext ρ σ G H ρ' σ' G' H' → SE K π ρ' G' σ' H' → D.ct σ' H'
  | .ok (.ret r) ρ' => ∀ w σ' G' H', Same G G' → Ext ρ σ G H ρ' σ' G' H' → SE K π ρ' G' σ' H' → RR K ρ σ H ρ' σ' G' H' r w → D.rt w H'
  | .rz x ρ' => ∀ cls d σ' G' H', Same G G' → Ext ρ σ G H ρ' σ' G' H' → SE K π ρ' G' σ' H' → c.Z x cls d G' → c.W cls d σ' H'
  | .st => False
def tS (g : Es) : TS := fun D σ H => ∃ π ρ G, SE K π ρ G σ H ∧ PoS K c π ρ G σ H (g ρ) D
end
end NV

set_option Elab.async false
set_option linter.all false
set_option maxRecDepth 100000
set_option maxHeartbeats 2000000
/-! Lay2: operators and built-ins by values. -/
namespace NV
open PySem PySem.Spec PyProof.Rows L2
theorem PE_imp {X : Cx} {e : Expr} {t t' : TE} (h : PE X e t) (m : ∀ σ H Q, t' σ H Q → t σ H Q) : PE X e t' := ⟨fun pins s σ H Q I hw => h.run pins s σ H Q I (m σ H Q hw)⟩
theorem PT_imp {X : Cx} {e : Expr} {t t' : TT} (h : PT X e t) (m : ∀ σ H Q, t' σ H Q → t σ H Q) : PT X e t' := ⟨fun pins s σ H Q I hw => h.run pins s σ H Q I (m σ H Q hw)⟩
theorem PW_imp {X : Cx} {e : Expr} {t t' : TT} (h : PW X e t) (m : ∀ σ H Q, t' σ H Q → t σ H Q) : PW X e t' := ⟨fun wh pins s σ H Q I hw => h.run wh pins s σ H Q I (m σ H Q hw)⟩
theorem PS_imp {X : Cx} {e : Stmt} {t t' : TS} (h : PS X e t) (m : ∀ D σ H, t' D σ H → t D σ H) : PS X e t' := ⟨fun pins s σ H D I hw => h.run pins s σ H D I (m D σ H hw)⟩

/-! ### universal readings -/
def rU2 (X : Cx) (f : Value → Value → Sem Value) : R2 := fun x y H Q => ∀ (pins : List (Addr × Obj)) (s : Shared) (σ : St) (v u : Value), Inv X pins σ H s → RelV x v → RelV y u → wpAny (model X.prog X.w) X.A (f v u) (EP X pins σ Q) X.xe s
theorem opr_U {X : Cx} {f : Value → Value → Sem Value} : OpR X f (rU2 X f) := fun pins s σ H x y v u Q I rx ry h => h pins s σ v u I rx ry
theorem rU2_of {X : Cx} {f : Value → Value → Sem Value} {r : R2} (h : OpR X f r) {x y : V} {H : Hp} {Q : VK} (q : r x y H Q) : rU2 X f x y H Q := fun pins s σ v u I rx ry => h pins s σ H x y v u Q I rx ry q
def rU1 (X : Cx) (f : Value → Sem Value) : V → Hp → VK → Prop := fun x H Q => ∀ (pins : List (Addr × Obj)) (s : Shared) (σ : St) (v : Value), Inv X pins σ H s → RelV x v → wpAny (model X.prog X.w) X.A (f v) (EP X pins σ Q) X.xe s
theorem unr_U {X : Cx} {f : Value → Sem Value} : UnR X f (rU1 X f) := fun pins s σ H x v Q I rx h => h pins s σ v I rx
theorem rU1_of {X : Cx} {f : Value → Sem Value} {r : V → Hp → VK → Prop} (h : UnR X f r) {x : V} {H : Hp} {Q : VK} (q : r x H Q) : rU1 X f x H Q := fun pins s σ v I rx => h pins s σ H x v Q I rx q
def rUC (X : Cx) (f : Value) : List V → Hp → VK → Prop := fun xs H Q => ∀ (pins : List (Addr × Obj)) (s : Shared) (σ : St) (us : List Value), Inv X pins σ H s → Vals xs us → wpAny (model X.prog X.w) X.A (call f us) (EP X pins σ Q) X.xe s
theorem callr_U {X : Cx} {f : Value} : CallR X f (rUC X f) := fun pins s σ H xs us Q I r h => h pins s σ us I r
theorem rUC_of {X : Cx} {f : Value} {r : List V → Hp → VK → Prop} (h : CallR X f r) {xs : List V} {H : Hp} {Q : VK} (q : r xs H Q) : rUC X f xs H Q := fun pins s σ us I rx => h pins s σ H xs us Q I rx q
def rUM (X : Cx) (id : String) : V → List V → Hp → VK → Prop := fun x xs H Q => ∀ (pins : List (Addr × Obj)) (s : Shared) (σ : St) (v : Value) (us : List Value), Inv X pins σ H s → RelV x v → Vals xs us → wpAny (model X.prog X.w) X.A (call (.builtin id) (v :: us)) (EP X pins σ Q) X.xe s
theorem mtr_U {X : Cx} {id : String} : MtR X id (rUM X id) := fun pins s σ H x xs v us Q I rx r h => h pins s σ v us I rx r
theorem rUM_of {X : Cx} {id : String} {r : V → List V → Hp → VK → Prop} (h : MtR X id r) {x : V} {xs : List V} {H : Hp} {Q : VK} (q : r x xs H Q) : rUM X id x xs H Q := fun pins s σ v us I rx rs => h pins s σ H x xs v us Q I rx rs q
def rUI (X : Cx) : R2 := fun x y H Q => ∀ (value slice : Expr) (pins : List (Addr × Obj)) (s : Shared) (σ : St) (v u : Value), Inv X pins σ H s → RelV x v → RelV y u → subscripted slice false v u = operate [v, u] (getItem v u) → wpAny (model X.prog X.w) X.A (subscriptTail value slice v u) (EP X pins σ Q) X.xe s
theorem ixr_U {X : Cx} : IxR X (rUI X) := fun value slice pins s σ H x y v u Q I rx ry h hs => h value slice pins s σ v u I rx ry hs
theorem rUI_of {X : Cx} {r : R2} (h : IxR X r) {x y : V} {H : Hp} {Q : VK} (q : r x y H Q) : rUI X x y H Q := fun value slice pins s σ v u I rx ry hs => h value slice pins s σ H x y v u Q I rx ry q hs

/-- what an operation makes of data -/
def Fin (K : PySem.W.Frag) (G H : Hp) (Q : VK) (d : D) : Prop := ∀ w G' H', Grow G H G' H' → Rep K G' w d → Q w H'
theorem Fin.flat {K : PySem.W.Frag} {G H : Hp} {Q : VK} {d : D} (s : Same G H) {w : V} (r : Rep K G w d) (h : Fin K G H Q d) : Q w H := h w G H (Grow.refl s) r
theorem Fin.int {K : PySem.W.Frag} {G H : Hp} {Q : VK} {i : Int} (s : Same G H) (h : Fin K G H Q (.int i)) : Q (.int i) H := h.flat s (.int i)
theorem Fin.bl {K : PySem.W.Frag} {G H : Hp} {Q : VK} {i : Bool} (s : Same G H) (h : Fin K G H Q (.bl i)) : Q (.bl i) H := h.flat s (.bl i)
theorem Fin.str {K : PySem.W.Frag} {G H : Hp} {Q : VK} {i : List Nat} (s : Same G H) (h : Fin K G H Q (.str i)) : Q (.str (ofL i)) H := h.flat s (.str i)
/-- a new list -/
theorem Fin.lst {K : PySem.W.Frag} {G H : Hp} {Q : VK} {ds : List D} {ws : List V} (s : Same G H) (r : Reps K G ws ds) (h : Fin K G H Q (.lst ds)) : ∀ p, H p = none → Q (.ref p) (upd H p (.lst ws)) := fun p n => by
  have g := Grow.tr (o := .lst ws) s n
  exact h (.ref p) _ _ g (.lst upd_same (Reps.mono g.g _ _ r))
theorem Fin.tup {K : PySem.W.Frag} {G H : Hp} {Q : VK} {ds : List D} {ws : List V} (s : Same G H) (r : Reps K G ws ds) (h : Fin K G H Q (.tup ds)) : ∀ p, H p = none → Q (.ref p) (upd H p (.tup ws)) := fun p n => by
  have g := Grow.tr (o := .tup ws) s n
  exact h (.ref p) _ _ g (.tup (.inl (.inl upd_same)) (Reps.mono g.g _ _ r))
structure OpD (X : Cx) (f : Value → Value → Sem Value) (g : D → D → Option D) : Prop where
  run : ∀ {G H : Hp} {x y : V} {a b d : D} {Q : VK}, Same G H → Rep X.K G x a → Rep X.K G y b → g a b = some d → Fin X.K G H Q d → rU2 X f x y H Q
structure UnD (X : Cx) (f : Value → Sem Value) (g : D → Option D) : Prop where
  run : ∀ {G H : Hp} {x : V} {a d : D} {Q : VK}, Same G H → Rep X.K G x a → g a = some d → Fin X.K G H Q d → rU1 X f x H Q
structure CallD1 (X : Cx) (f : Value) (g : D → Option D) : Prop where
  run : ∀ {G H : Hp} {x : V} {a d : D} {Q : VK}, Same G H → Rep X.K G x a → g a = some d → Fin X.K G H Q d → rUC X f [x] H Q
structure CallD2 (X : Cx) (f : Value) (g : D → D → Option D) : Prop where
  run : ∀ {G H : Hp} {x y : V} {a b d : D} {Q : VK}, Same G H → Rep X.K G x a → Rep X.K G y b → g a b = some d → Fin X.K G H Q d → rUC X f [x, y] H Q
structure MtD1 (X : Cx) (id : String) (g : D → D → Option D) : Prop where
  run : ∀ {G H : Hp} {x y : V} {a b d : D} {Q : VK}, Same G H → Rep X.K G x a → Rep X.K G y b → g a b = some d → Fin X.K G H Q d → rUM X id x [y] H Q
structure IxD (X : Cx) (g : D → D → Option D) : Prop where
  run : ∀ {G H : Hp} {x y : V} {a b d : D} {Q : VK}, Same G H → Rep X.K G x a → Rep X.K G y b → g a b = some d → Fin X.K G H Q d → rUI X x y H Q

section
variable {X : Cx}
theorem line_eq : line = sizeLine := by rw [sizeLine_eq]; rfl
theorem big_log {n : Nat} (h : n < big) : n.log2 < 100000 := by
  unfold big at h
  exact PySem.Flt.log2_lt_of (k := 100000) (by decide) h
theorem ofL_app (s t : List Nat) : ofL s ++ ofL t = ofL (s ++ t) := TL.ext_tl (by rw [TL.tl_append]; rfl)
theorem opd_add : OpD X (binaryOp .Add) opAdd := by
  refine ⟨fun {G H x y a b d Q} s ra rb e h => ?_⟩
  cases a <;> cases b <;> first | (simp [opAdd] at e; done) | skip
  · cases ra; cases rb
    rename_i i j
    obtain rfl : D.int (i + j) = d := Option.some.inj e
    exact rU2_of op_add ⟨i, j, rfl, rfl, h.int s⟩
  · cases ra; cases rb
    rename_i i j
    simp only [opAdd] at e
    split at e
    · rename_i hl
      obtain rfl : D.str (i ++ j) = d := Option.some.inj e
      refine rU2_of op_add_str ⟨_, _, rfl, rfl, ?_, ?_⟩
      · rw [ofL_len, ofL_len, ← line_eq]; exact hl
      · rw [ofL_app]; exact h.str s
    · cases e
  · cases ra with
    | tup h1 r1 =>
      cases rb with
      | tup h2 r2 =>
        rename_i i j
        simp only [opAdd] at e
        split at e
        · rename_i hl
          obtain rfl : D.tup _ = d := Option.some.inj e
          refine rU2_of op_catA ⟨_, _, _, _, rfl, rfl, Same.tupS s h1, Same.tupS s h2, ?_, fun q => ?_, fun _ q => ?_, fun _ _ => h.tup s (r1.append r2)⟩
          · rw [r1.length, r2.length, ← line_eq]; exact hl
          · subst q
            cases r1
            exact h.flat s (.tup h2 r2)
          · subst q
            cases r2
            rw [List.append_nil] at h
            exact h.flat s (.tup h1 r1)
        · cases e
  · cases ra with
    | lst h1 r1 =>
      cases rb with
      | lst h2 r2 =>
        rename_i i j
        simp only [opAdd] at e
        split at e
        · rename_i hl
          obtain rfl : D.lst _ = d := Option.some.inj e
          refine rU2_of op_cat ⟨_, _, _, _, rfl, rfl, s _ _ h1, s _ _ h2, ?_, h.lst s (r1.append r2)⟩
          rw [r1.length, r2.length, ← line_eq]; exact hl
        · cases e
theorem opd_iadd : OpD X (inplaceOp .Add) opIAdd := by
  refine ⟨fun {G H x y a b d Q} s ra rb e h => ?_⟩
  cases a <;> cases b <;> first | (simp [opIAdd] at e; done) | skip
  · cases ra; cases rb
    rename_i i j
    obtain rfl : D.int (i + j) = d := Option.some.inj e
    exact rU2_of iop_add ⟨i, j, rfl, rfl, h.int s⟩
theorem opd_isub : OpD X (inplaceOp .Sub) opSub := by
  refine ⟨fun {G H x y a b d Q} s ra rb e h => ?_⟩
  cases a <;> cases b <;> first | (simp [opSub] at e; done) | skip
  · cases ra; cases rb
    rename_i i j
    obtain rfl : D.int (i - j) = d := Option.some.inj e
    exact rU2_of iop_sub ⟨i, j, rfl, rfl, h.int s⟩
theorem opd_sub : OpD X (binaryOp .Sub) opSub := by
  refine ⟨fun {G H x y a b d Q} s ra rb e h => ?_⟩
  cases a <;> cases b <;> first | (simp [opSub] at e; done) | skip
  cases ra; cases rb
  rename_i i j
  obtain rfl : D.int (i - j) = d := Option.some.inj e
  exact rU2_of op_sub ⟨i, j, rfl, rfl, h.int s⟩
theorem foldl_flat (z : Array Nat) : ∀ (n : Nat) (acc : Array Nat), ((List.replicate n z).foldl (· ++ ·) acc).toList = acc.toList ++ (List.replicate n z.toList).flatten
  | 0, acc => by simp
  | n + 1, acc => by
    rw [List.replicate_succ, List.foldl_cons, foldl_flat z n, List.replicate_succ, List.flatten_cons, Array.toList_append, List.append_assoc]
theorem mul_ofL (z : List Nat) (k : Int) (h : 0 ≤ k) : Txt.mul (ofL z) k = ofL (List.replicate k.toNat z).flatten := by
  unfold Txt.mul
  split
  · rename_i h1
    have : k = 0 := by omega
    subst this
    rfl
  · split
    · rename_i h2
      rw [Bool.or_eq_true, beq_iff_eq, beq_iff_eq] at h2
      rcases h2 with h2 | h2
      · subst h2
        show ofL z = ofL (List.replicate 1 z).flatten
        simp
      · rw [ofL_len] at h2
        have : z = [] := List.length_eq_zero_iff.mp h2
        subst this
        have : ∀ n : Nat, (List.replicate n ([] : List Nat)).flatten = [] := fun n => by induction n with
          | zero => rfl
          | succ n ih => rw [List.replicate_succ, List.flatten_cons, ih]; rfl
        rw [this]
    · refine congrArg Str.mk ?_
      apply Array.ext'
      rw [foldl_flat]
      simp [ofL]
theorem opd_mul : OpD X (binaryOp .Mult) opMul := by
  refine ⟨fun {G H x y a b d Q} s ra rb e h => ?_⟩
  cases a <;> cases b <;> first | (simp [opMul] at e; done) | skip
  · cases ra; cases rb
    rename_i i j
    simp only [opMul] at e
    split at e
    · rename_i hm
      obtain rfl : D.int (i * j) = d := Option.some.inj e
      unfold mulOk at hm
      rw [Bool.and_eq_true, decide_eq_true_eq, decide_eq_true_eq] at hm
      have h1 := big_log hm.1
      have h2 := big_log hm.2
      exact rU2_of op_mulW ⟨i, j, rfl, rfl, (by unfold CMulW; omega), h.int s⟩
    · cases e
  · cases ra; cases rb
    rename_i z k
    simp only [opMul] at e
    split at e
    · rename_i hm
      obtain ⟨h0, h1, h2⟩ := hm
      obtain rfl : D.str _ = d := Option.some.inj e
      refine fun pins s' σ v u I rx ry => ?_
      obtain ⟨t, rfl⟩ := (show ∃ t, v = Value.str (ofL z) t from rx)
      obtain ⟨t', rfl⟩ := (show ∃ t, u = Value.int k t from ry)
      have hl : ∀ n : Nat, 1 ≤ n → z.length * n ≤ line → z.length ≤ line := fun n h1 h2 => Nat.le_trans (Nat.le_mul_of_pos_right _ h1) h2
      have e2 : Txt.mul (ofL z) k = ofL (List.replicate k.toNat z).flatten := mul_ofL z k h0
      refine SB.mul ⟨?_, fun hk _ => ?_, fun hk _ => ?_⟩ fun t' tk => ⟨.str (Txt.mul (ofL z) k), H, I.tok tk, ⟨t', rfl⟩, ?_⟩
      · rw [Bool.or_eq_false_iff, decide_eq_false_iff_not, decide_eq_false_iff_not]; omega
      · rw [ofL_len]
        have h3 : z.length ≤ 16777216 := hl k.toNat (by omega) h2
        have h4 : (16777216 : Int) ≤ (2 ^ 63 - 1) / k := (Int.le_ediv_iff_mul_le (by omega)).mpr (by omega)
        omega
      · rw [ofL_len]
        show decide (_ > sizeLine) = false
        rw [decide_eq_false_iff_not, ← line_eq]
        omega
      · rw [e2]; exact h.str s
    · cases e
  · cases ra with
    | lst h1 r1 =>
      cases rb
      simp only [opMul] at e
      split at e
      · rename_i hm
        obtain rfl : D.lst _ = d := Option.some.inj e
        refine rU2_of op_rep ⟨_, _, _, rfl, rfl, s _ _ h1, (by have := hm.1; omega), (by have := hm.2.1; omega), ?_, h.lst s ?_⟩
        · rw [r1.length, ← line_eq]; exact hm.2.2
        · clear hm h
          generalize Int.toNat _ = n
          induction n with
          | zero => exact .nil
          | succ n ih =>
            rw [List.replicate_succ, List.replicate_succ, List.flatten_cons, List.flatten_cons]
            exact r1.append ih
      · cases e
theorem opd_mod : OpD X (binaryOp .Mod) opMod := by
  refine ⟨fun {G H x y a b d Q} s ra rb e h => ?_⟩
  cases a <;> cases b <;> first | (simp [opMod] at e; done) | skip
  cases ra; cases rb
  rename_i i j
  simp only [opMod] at e
  split at e
  · rename_i hm
    obtain rfl : D.int _ = d := Option.some.inj e
    exact rU2_of op_mod ⟨i, j, rfl, rfl, hm, h.int s⟩
  · cases e
theorem opd_div : OpD X (binaryOp .FloorDiv) opDiv := by
  refine ⟨fun {G H x y a b d Q} s ra rb e h => ?_⟩
  cases a <;> cases b <;> first | (simp [opDiv] at e; done) | skip
  cases ra; cases rb
  rename_i i j
  simp only [opDiv] at e
  split at e
  · rename_i hm
    obtain rfl : D.int _ = d := Option.some.inj e
    exact rU2_of op_fdivW ⟨i, j, rfl, rfl, wide_div hm.1 hm.2 (by decide) (by decide), h.int s⟩
  · cases e
theorem opd_pow : OpD X (binaryOp .Pow) opPow := by
  refine ⟨fun {G H x y a b d Q} s ra rb e h => ?_⟩
  cases a <;> cases b <;> first | (simp [opPow] at e; done) | skip
  cases ra; cases rb
  rename_i i j
  simp only [opPow] at e
  split at e
  · rename_i hm
    obtain rfl : D.int _ = d := Option.some.inj e
    obtain ⟨h0, hm | hm⟩ := hm
    · exact rU2_of op_pow ⟨i, j, rfl, rfl, ⟨h0, hm.1, by have := hm.2; omega⟩, h.int s⟩
    · refine fun pins s' σ v u I rx ry => ?_
      obtain ⟨t, rfl⟩ := (show ∃ t, v = Value.int i t from rx)
      obtain ⟨t', rfl⟩ := (show ∃ t, u = Value.int j t from ry)
      have hb : Builtin.Int.intBits i ≤ 100001 := by
        have := big_log hm.2
        unfold Builtin.Int.intBits
        first
        | omega
        | (split <;> omega)
      refine pow_int h0 ?_ ⟨.int (i ^ j.toNat), H, I.tok _, ⟨_, rfl⟩, h.int s⟩
      have h1 : (Builtin.Int.intBits i : Int) * j ≤ 100001 * 1000 := Int.mul_le_mul (by omega) hm.1 h0 (by decide)
      omega
  · cases e
theorem und_neg : UnD X (unaryOp .USub) opNeg := by
  refine ⟨fun {G H x a d Q} s ra e h => ?_⟩
  cases a <;> first | (simp [opNeg] at e; done) | skip
  cases ra
  obtain rfl : D.int _ = d := Option.some.inj e
  exact rU1_of un_neg ⟨_, rfl, h.int s⟩
end
end NV

set_option Elab.async false
set_option linter.all false
set_option maxRecDepth 100000
set_option maxHeartbeats 2000000
/-! Lay3: comparisons, subscripts, built-ins by values. -/
namespace NV
open PySem PySem.Spec PyProof.Rows L2

/-! ### data as the library's -/
mutual
def toP : D → PyData
  | .non => .none
  | .bl b => .bool b
  | .int i => .int i
  | .str s => .str (ofL s)
  | .tup xs => .tuple (toPs xs)
  | .lst xs => .list (toPs xs)
  | .dct _ => .none
  | .obj _ _ => .none
  | .exc _ _ => .none
  | .scr _ => .none
def toPs : List D → List PyData
  | [] => []
  | x :: xs => toP x :: toPs xs
end
section
variable {K : PySem.W.Frag} {H : Hp}
mutual
theorem dp_of : ∀ (d : D) (n : Nat) (v : V), Rep K H v d → d.lv n = true → Dp K H v (toP d)
  | .non, _, _, h, _ => by cases h; exact .non
  | .bl b, _, _, h, _ => by cases h; exact .bl b
  | .int i, _, _, h, _ => by cases h; exact .int i
  | .str s, _, _, h, _ => by cases h; exact .str _
  | .tup ds, n, _, h, l => by
    cases n with
    | zero => simp [D.lv] at l
    | succ n =>
      cases h with
      | tup h1 h2 => exact .tup h1 (dps_of ds n _ h2 (by simpa only [D.lv] using l))
  | .lst ds, n, _, h, l => by
    cases n with
    | zero => simp [D.lv] at l
    | succ n =>
      cases h with
      | lst h1 h2 => exact .lst (SqL.of h1) (dps_of ds n _ h2 (by simpa only [D.lv] using l))
  | .dct _, n, _, h, l => by cases n <;> simp [D.lv] at l
  | .obj _ _, n, _, h, l => by cases n <;> simp [D.lv] at l
  | .exc _ _, n, _, h, l => by cases n <;> simp [D.lv] at l
  | .scr _, n, _, h, l => by cases n <;> simp [D.lv] at l
theorem dps_of : ∀ (ds : List D) (n : Nat) (vs : List V), Reps K H vs ds → D.lvs n ds = true → DpAll K H vs (toPs ds)
  | [], _, _, h, _ => by cases h; exact .nil
  | d :: ds, n, _, h, l => by
    rw [D.lvs, Bool.and_eq_true] at l
    cases h with
    | cons h1 h2 => exact .cons (dp_of d n _ h1 l.1) (dps_of ds n _ h2 l.2)
end
end
mutual
theorem can_of : ∀ (d : D) (n : Nat), d.lv n = true → (toP d).canLay0 = true ∧ (toP d).depth ≤ n
  | .non, _, _ => by simp [toP, PyData.canLay0, PyData.depth]
  | .bl b, _, _ => by simp [toP, PyData.canLay0, PyData.depth]
  | .int i, _, _ => by simp [toP, PyData.canLay0, PyData.depth]
  | .str s, n, l => by
    have l' : (s.all fun c => decide (c < 1114112)) = true := by cases n <;> simpa only [D.lv] using l
    refine ⟨?_, by simp [toP, PyData.depth]⟩
    simp only [toP, PyData.canLay0, PyData.strOk, ofL]
    rw [List.all_eq_true] at l'
    rw [List.all_toArray, List.all_eq_true]
    exact l'
  | .tup ds, n, l => by
    cases n with
    | zero => simp [D.lv] at l
    | succ n =>
      have := cans_of ds n (by simpa only [D.lv] using l)
      simp only [toP, PyData.canLay0, PyData.depth]
      exact ⟨this.1, by omega⟩
  | .lst ds, n, l => by
    cases n with
    | zero => simp [D.lv] at l
    | succ n =>
      have := cans_of ds n (by simpa only [D.lv] using l)
      simp only [toP, PyData.canLay0, PyData.depth]
      exact ⟨this.1, by omega⟩
  | .dct _, n, l => by cases n <;> simp [D.lv] at l
  | .obj _ _, n, l => by cases n <;> simp [D.lv] at l
  | .exc _ _, n, l => by cases n <;> simp [D.lv] at l
  | .scr _, n, l => by cases n <;> simp [D.lv] at l
theorem cans_of : ∀ (ds : List D) (n : Nat), D.lvs n ds = true → PyData.canLayAll0 (toPs ds) = true ∧ PyData.depthAll (toPs ds) ≤ n
  | [], _, _ => by simp [toPs, PyData.canLayAll0, PyData.depthAll]
  | d :: ds, n, l => by
    rw [D.lvs, Bool.and_eq_true] at l
    have h1 := can_of d n l.1
    have h2 := cans_of ds n l.2
    simp only [toPs, PyData.canLayAll0, PyData.depthAll, h1.1, h2.1, Bool.and_self, true_and]
    omega
end
theorem shaped_of {d : D} (l : d.lv 12 = true) : SeqAt.shaped (toP d) = true := by
  obtain ⟨h1, h2⟩ := can_of d 12 l
  unfold SeqAt.shaped
  rw [h1, decide_eq_true (show (toP d).depth ≤ 64 by omega)]
  rfl
theorem beq_ofL (s t : List Nat) : (ofL s == ofL t) = (s == t) := by
  rw [Bool.eq_iff_iff, beq_iff_eq, beq_iff_eq]
  exact ⟨ofL_inj, fun e => by rw [e]⟩
mutual
theorem eqv_of : ∀ (a b : D) (n m : Nat), a.lv n = true → b.lv m = true → PyData.eqv (toP a) (toP b) = D.eqv a b
  | .non, b, n, m, _, l => by cases b <;> first | (simp [toP, PyData.eqv, D.eqv]; done) | (cases m <;> simp [D.lv] at l; done)
  | .bl _, b, n, m, _, l => by cases b <;> first | (simp [toP, PyData.eqv, D.eqv]; done) | (cases m <;> simp [D.lv] at l; done)
  | .int _, b, n, m, _, l => by cases b <;> first | (simp [toP, PyData.eqv, D.eqv]; done) | (cases m <;> simp [D.lv] at l; done)
  | .str _, b, n, m, _, l => by cases b <;> first | (simp [toP, PyData.eqv, D.eqv, beq_ofL]; done) | (cases m <;> simp [D.lv] at l; done)
  | .tup xs, b, n, m, k, l => by
    cases n with
    | zero => simp [D.lv] at k
    | succ n =>
      cases b with
      | tup ys =>
        cases m with
        | zero => simp [D.lv] at l
        | succ m =>
          simp only [toP, PyData.eqv, D.eqv]
          exact eqvs_of xs ys n m (by simpa only [D.lv] using k) (by simpa only [D.lv] using l)
      | _ => first | (simp [toP, PyData.eqv, D.eqv]; done) | (cases m <;> simp [D.lv] at l; done)
  | .lst xs, b, n, m, k, l => by
    cases n with
    | zero => simp [D.lv] at k
    | succ n =>
      cases b with
      | lst ys =>
        cases m with
        | zero => simp [D.lv] at l
        | succ m =>
          simp only [toP, PyData.eqv, D.eqv]
          exact eqvs_of xs ys n m (by simpa only [D.lv] using k) (by simpa only [D.lv] using l)
      | _ => first | (simp [toP, PyData.eqv, D.eqv]; done) | (cases m <;> simp [D.lv] at l; done)
  | .dct _, _, n, _, l, _ => by cases n <;> simp [D.lv] at l
  | .obj _ _, _, n, _, l, _ => by cases n <;> simp [D.lv] at l
  | .exc _ _, _, n, _, l, _ => by cases n <;> simp [D.lv] at l
  | .scr _, _, n, _, l, _ => by cases n <;> simp [D.lv] at l
theorem eqvs_of : ∀ (as bs : List D) (n m : Nat), D.lvs n as = true → D.lvs m bs = true → PyData.eqvAll (toPs as) (toPs bs) = D.eqvs as bs
  | [], [], _, _, _, _ => by simp [toPs, PyData.eqvAll, D.eqvs]
  | [], b :: bs, _, _, _, _ => by simp [toPs, PyData.eqvAll, D.eqvs]
  | a :: as, [], _, _, _, _ => by simp [toPs, PyData.eqvAll, D.eqvs]
  | a :: as, b :: bs, n, m, k, l => by
    rw [D.lvs, Bool.and_eq_true] at k l
    simp only [toPs, PyData.eqvAll, D.eqvs, eqv_of a b n m k.1 l.1, eqvs_of as bs n m k.2 l.2]
end
section
variable {X : Cx}
theorem opd_eq (hu : X.A.units + 64 < cLine) : OpD X (compareOp .Eq) opEq := by
  refine ⟨fun {G H x y a b d Q} s ra rb e h => ?_⟩
  unfold opEq at e
  split at e
  · rename_i hl
    rw [Bool.and_eq_true] at hl
    obtain rfl := Option.some.inj e
    refine rU2_of (op_eqD hu) ⟨_, _, dp_of a 12 _ (ra.mono s _) hl.1, dp_of b 12 _ (rb.mono s _) hl.2, shaped_of hl.1, shaped_of hl.2, ?_⟩
    rw [eqv_of a b 12 12 hl.1 hl.2]
    exact h.bl s
  · cases e
theorem opd_ne (hu : X.A.units + 64 < cLine) : OpD X (compareOp .NotEq) opNe := by
  refine ⟨fun {G H x y a b d Q} s ra rb e h => ?_⟩
  unfold opNe at e
  split at e
  · rename_i hl
    rw [Bool.and_eq_true] at hl
    obtain rfl := Option.some.inj e
    refine rU2_of (op_neD hu) ⟨_, _, dp_of a 12 _ (ra.mono s _) hl.1, dp_of b 12 _ (rb.mono s _) hl.2, shaped_of hl.1, shaped_of hl.2, ?_⟩
    rw [eqv_of a b 12 12 hl.1 hl.2]
    exact h.bl s
  · cases e
theorem opd_lt : OpD X (compareOp .Lt) opLt := by
  refine ⟨fun {G H x y a b d Q} s ra rb e h => ?_⟩
  cases a <;> cases b <;> first | (simp [opLt] at e; done) | skip
  cases ra; cases rb
  obtain rfl := Option.some.inj e
  exact rU2_of op_lt ⟨_, _, rfl, rfl, h.bl s⟩
theorem opd_le : OpD X (compareOp .LtE) opLe := by
  refine ⟨fun {G H x y a b d Q} s ra rb e h => ?_⟩
  cases a <;> cases b <;> first | (simp [opLe] at e; done) | skip
  cases ra; cases rb
  obtain rfl := Option.some.inj e
  exact rU2_of op_le ⟨_, _, rfl, rfl, h.bl s⟩
theorem opd_gt : OpD X (compareOp .Gt) opGt := by
  refine ⟨fun {G H x y a b d Q} s ra rb e h => ?_⟩
  cases a <;> cases b <;> first | (simp [opGt] at e; done) | skip
  cases ra; cases rb
  obtain rfl := Option.some.inj e
  exact rU2_of op_gt ⟨_, _, rfl, rfl, h.bl s⟩
theorem opd_ge : OpD X (compareOp .GtE) opGe := by
  refine ⟨fun {G H x y a b d Q} s ra rb e h => ?_⟩
  cases a <;> cases b <;> first | (simp [opGe] at e; done) | skip
  cases ra; cases rb
  obtain rfl := Option.some.inj e
  exact rU2_of op_ge ⟨_, _, rfl, rfl, h.bl s⟩
theorem opd_is : OpD X (compareOp .Is) opIs := by
  refine ⟨fun {G H x y a b d Q} s ra rb e h => ?_⟩
  cases b <;> first | (simp [opIs] at e; done) | skip
  · cases rb
    cases ra <;> (obtain rfl := Option.some.inj e; exact rU2_of op_isN ⟨rfl, h.bl s⟩)
  · cases rb
    cases ra <;> first | (simp [opIs] at e; done) | skip
    obtain rfl := Option.some.inj e
    exact rU2_of op_isBl ⟨_, _, rfl, rfl, h.bl s⟩
theorem opd_isNot : OpD X (compareOp .IsNot) opIsNot := by
  refine ⟨fun {G H x y a b d Q} s ra rb e h => ?_⟩
  cases b <;> first | (simp [opIsNot] at e; done) | skip
  · cases rb
    cases ra <;> (obtain rfl := Option.some.inj e; exact rU2_of op_notN ⟨rfl, h.bl s⟩)
  · cases rb
    cases ra <;> first | (simp [opIsNot] at e; done) | skip
    obtain rfl := Option.some.inj e
    exact rU2_of op_notBl ⟨_, _, rfl, rfl, h.bl s⟩
end
end NV

set_option Elab.async false
set_option linter.all false
set_option maxRecDepth 100000
set_option maxHeartbeats 2000000
/-! Lay4: in, subscripts, built-ins and methods by values. -/
namespace NV
open PySem PySem.Spec PyProof.Rows L2
section
variable {K : PySem.W.Frag} {H : Hp}
theorem flatV_of {v : V} {d : D} (h : Rep K H v d) : d.flat = true → flatV v = true := by
  intro f
  cases h <;> first | rfl | (simp [D.flat] at f; done)
theorem eqV_of {v w : V} {d e : D} (h : Rep K H v d) (g : Rep K H w e) (f : d.flat = true) (f' : e.flat = true) : eqV v w = D.eqv d e := by
  cases h <;> first | (simp [D.flat] at f; done) | skip
  all_goals (cases g <;> first | (simp [D.flat] at f'; done) | (simp [eqV, D.eqv]; done) | (simp [eqV, D.eqv, beq_ofL]; done))
theorem flats_of : ∀ {vs : List V} {ds : List D}, Reps K H vs ds → ds.all D.flat = true → vs.all flatV = true
  | _, [], h, _ => by cases h; rfl
  | _, d :: ds, h, f => by
    rw [List.all_cons, Bool.and_eq_true] at f
    cases h with
    | cons h1 h2 => rw [List.all_cons, flatV_of h1 f.1, flats_of h2 f.2]; rfl
theorem anyV_of {v : V} {d : D} (h : Rep K H v d) (f : d.flat = true) : ∀ {vs : List V} {ds : List D}, Reps K H vs ds → ds.all D.flat = true → inV v vs = ds.any fun y => D.eqv y d
  | _, [], g, _ => by cases g; rfl
  | _, e :: ds, g, k => by
    rw [List.all_cons, Bool.and_eq_true] at k
    cases g with
    | cons g1 g2 =>
      have ih := anyV_of h f g2 k.2
      unfold inV at ih ⊢
      rw [List.any_cons, List.any_cons, ih, eqV_of g1 h k.1 f]
theorem valV_of {k : List Nat} : ∀ {kvs : List (Key × V)} {es : List (List Nat × D)}, RepK K H kvs es → (look k es = none → valV kvs (.inr (ofL k)) = none) ∧ (∀ d, look k es = some d → ∃ v, valV kvs (.inr (ofL k)) = some v ∧ Rep K H v d)
  | _, [], h => by
    cases h
    exact ⟨fun _ => rfl, fun d e => by simp [look] at e⟩
  | _, (x, e) :: es, h => by
    cases h with
    | cons h1 h2 =>
      obtain ⟨i1, i2⟩ := valV_of (k := k) h2
      by_cases q : x = k
      · subst q
        refine ⟨fun z => by simp [look] at z, fun d z => ?_⟩
        have e' : e = d := by simpa [look] using z
        subst e'
        exact ⟨_, valV_pos rfl, h1⟩
      · have nq : ¬ (Sum.inr (ofL x) : Key) = Sum.inr (ofL k) := fun z => q (ofL_inj (Sum.inr.inj z))
        have e1 : look k ((x, e) :: es) = look k es := by simp [look, q]
        rw [e1, valV_neg nq]
        exact ⟨i1, i2⟩
end

/-! ### one sign in a text -/
theorem occ1_size (x : Str) (c lim : Nat) : ∀ (m cur : Nat) (st : Array Nat × Nat), cur + m = x.length + 1 → st.snd ≤ cur → st.fst.size + m ≤ lim →
    (forIn (List.range' cur m) st (StrLaws.occBody x ⟨#[c]⟩ x.length lim)).run.fst.size = st.fst.size + (x.cps.toList.drop cur).count c
  | 0, cur, st, h, _, _ => by
    have hl : x.length = x.cps.toList.length := by simp [Str.length]
    have e : x.cps.toList.drop cur = [] := List.drop_eq_nil_of_le (by omega)
    rw [e]
    simp
  | m + 1, cur, st, h, hs, hl => by
    rw [List.range'_succ, List.forIn_cons]
    have key := StrLaws.subAt_one x c cur
    unfold StrLaws.occBody
    by_cases hc : x.cps.toList[cur]? = some c
    · obtain ⟨k1, k2⟩ := key.mpr hc
      rw [if_pos ⟨⟨⟨by omega, hs⟩, k1⟩, k2⟩]
      have ih := occ1_size x c lim m (cur + 1) (st.fst.push cur, cur + (⟨#[c]⟩ : Str).length) (by omega) (Nat.le_refl _) (by simp only [Array.size_push]; omega)
      have hd : x.cps.toList.drop cur = c :: x.cps.toList.drop (cur + 1) := by
        obtain ⟨q1, q2⟩ := List.getElem?_eq_some_iff.mp hc
        rw [List.drop_eq_getElem_cons q1, q2]
      rw [hd, List.count_cons_self]
      simp only [pure_bind]
      refine Eq.trans ih ?_
      simp only [Array.size_push]
      omega
    · rw [if_neg (fun z => hc (key.mp ⟨z.1.2, z.2⟩))]
      have ih := occ1_size x c lim m (cur + 1) st (by omega) (by omega) (by omega)
      simp only [pure_bind]
      refine Eq.trans ih ?_
      cases hd : x.cps.toList.drop cur with
      | nil =>
        have : x.cps.toList.drop (cur + 1) = [] := by
          rw [← List.drop_drop, hd]; rfl
        rw [this]
      | cons a r =>
        have e1 : x.cps.toList[cur]? = some a := by
          rw [← List.head?_drop, hd]; rfl
        have e2 : x.cps.toList.drop (cur + 1) = r := by
          rw [← List.drop_drop, hd]; rfl
        rw [e2, List.count_cons_of_ne (fun z => hc (by rw [e1, z]))]
theorem count_one (s : List Nat) (c : Nat) : Txt.count (ofL s) (ofL [c]) = (s.count c : Nat) := by
  have key := occ1_size (ofL s) c ((ofL s).length + 1) ((ofL s).length + 1) 0 (#[], 0) (by omega) (Nat.le_refl _) (by simp)
  unfold Txt.count
  rw [StrLaws.occ_eq]
  simp only [Array.length_toList]
  have : ofL [c] = ⟨#[c]⟩ := rfl
  rw [this]
  have k2 : (forIn (List.range' 0 ((ofL s).length + 1 - 0)) ((#[] : Array Nat), 0) (StrLaws.occBody (ofL s) ⟨#[c]⟩ (ofL s).length ((ofL s).length + 1))).run.fst.size = s.count c := by
    refine Eq.trans key ?_
    simp [ofL_cps]
  rw [k2]
theorem idxOf_is {c : Nat} : ∀ {l : List Nat} {a : Nat}, l[a]? = some c → (∀ i, i < a → l[i]? ≠ some c) → l.idxOf c = a
  | [], a, h, _ => by simp at h
  | x :: r, 0, h, _ => by
    have : x = c := by simpa using h
    rw [this, List.idxOf_cons_self]
  | x :: r, a + 1, h, n => by
    have nx : x ≠ c := fun z => n 0 (by omega) (by rw [z]; rfl)
    have ih := idxOf_is (l := r) (a := a) (by simpa using h) fun i hi => by
      have := n (i + 1) (by omega)
      simpa using this
    have hb : (x == c) = false := by simpa using nx
    simp [List.idxOf_cons, hb, ih]
theorem occ_index (s : List Nat) (c : Nat) (h : c ∈ s) : ∃ rest, Builtin.Str.occurrences (ofL s) (ofL [c]) 0 (ofL s).length 1 = s.idxOf c :: rest := by
  have e1 : ofL [c] = ⟨#[c]⟩ := rfl
  rw [StrLaws.occ_eq, e1]
  have at_iff : ∀ i, StrLaws.At (ofL s) ⟨#[c]⟩ (ofL s).length i ↔ s[i]? = some c := fun i => by
    have := StrLaws.subAt_one (ofL s) c i
    rw [ofL_cps] at this
    exact this
  have hm : s.idxOf c < s.length := List.idxOf_lt_length_iff.mpr h
  have hg : s[s.idxOf c]? = some c := by
    rw [List.getElem?_eq_getElem hm, List.getElem_idxOf hm]
  have hmem : s.idxOf c ∈ List.range' 0 ((ofL s).length + 1 - 0) := by
    rw [List.mem_range'_1, ofL_len]; omega
  rcases StrLaws.occ_first (ofL s) ⟨#[c]⟩ (ofL s).length 1 (Nat.le_refl _) (List.range' 0 ((ofL s).length + 1 - 0)) 0 (fun _ _ => Nat.zero_le _) with ⟨_, h2⟩ | ⟨pre, a, post, hl, h3, h4, h5⟩
  · exact absurd ((at_iff _).mpr hg) (h2 _ hmem)
  · have ea : s.idxOf c = a := by
      refine idxOf_is ((at_iff a).mp h4) fun i hi hh => ?_
      refine h5 i ?_ ((at_iff i).mpr hh)
      have hlen := congrArg List.length hl
      simp only [List.length_range', List.length_append, List.length_cons] at hlen
      have ha : (List.range' 0 ((ofL s).length + 1 - 0))[pre.length]? = some a := by rw [hl]; simp
      rw [List.getElem?_range' (by omega)] at ha
      have ha' : pre.length = a := by simpa using ha
      have hi' : i < pre.length := by omega
      have q : (List.range' 0 ((ofL s).length + 1 - 0))[i]? = pre[i]? := by rw [hl, List.getElem?_append_left hi']
      rw [List.getElem?_range' (by omega)] at q
      exact List.mem_of_getElem? (i := i) (by rw [← q]; simp)
    rw [ea]
    generalize (forIn (List.range' 0 ((ofL s).length + 1 - 0)) ((#[] : Array Nat), 0) (StrLaws.occBody (ofL s) ⟨#[c]⟩ (ofL s).length 1)).run.fst = z at h3
    cases hz : z.toList with
    | nil =>
      have : z[0]? = none := by rw [← Array.getElem?_toList, hz]; rfl
      rw [this] at h3; cases h3
    | cons y r =>
      have : z[0]? = some y := by rw [← Array.getElem?_toList, hz]; rfl
      rw [this] at h3
      cases h3
      exact ⟨r, rfl⟩

section
variable {X : Cx}
theorem opd_in (hu : X.A.units + 1 < cLine) : OpD X (compareOp .In) opIn := by
  refine ⟨fun {G H x y a b d Q} s ra rb e h => ?_⟩
  have seqs : ∀ (ds : List D) (p : Addr) (ws : List V), Reps X.K G ws ds → (SqL X.K H p ws ∨ SqT X.K H p ws) → y = .ref p → (if (D.flat a && ds.all D.flat) = true then some (D.bl (ds.any fun y => D.eqv y a)) else none) = some d → rU2 X (compareOp .In) x y H Q := by
    intro ds p ws rs hq ey e
    split at e
    · rename_i hf
      rw [Bool.and_eq_true] at hf
      obtain rfl := Option.some.inj e
      refine rU2_of op_in_seq ⟨p, ws, ey, hq, flatV_of ra hf.1, flats_of rs hf.2, ?_⟩
      rw [if_neg Bool.false_ne_true, anyV_of ra hf.1 rs hf.2]
      exact h.bl s
    · cases e
  cases rb with
  | str t =>
    cases ra with
    | str z =>
      match z, e with
      | [c], e =>
        obtain rfl := Option.some.inj e
        exact rU2_of op_in_sign ⟨c, ofL t, rfl, rfl, by rw [ofL_cps]; exact h.bl s⟩
    | _ => simp [opIn] at e
  | @dct pd kvs es h1 h2 =>
    cases ra with
    | str z =>
      have e' : some (D.bl (look z es).isSome) = some d := by
        match z, e with
        | [], e => exact e
        | [c], e => exact e
        | c :: c' :: r, e => exact e
      obtain rfl := Option.some.inj e'
      intro pins s' σ v u I rx ry
      obtain rfl : u = Value.ref _ := ry
      obtain ⟨v1, v2⟩ := valV_of (k := z) h2
      have g := DGet.k (k := .inr (ofL z)) (s _ _ h1)
      refine d_in hu I g rx fun s3 I3 => ⟨.bl _, H, I3, rfl, ?_⟩
      cases hl : look z es with
      | none => rw [v1 hl]; have q := h.bl s; rw [hl] at q; exact q
      | some d' =>
        obtain ⟨w, e1, _⟩ := v2 _ hl
        rw [e1]; have q := h.bl s; rw [hl] at q; exact q
    | _ => simp [opIn] at e
  | tup h1 h2 =>
    refine seqs _ _ _ h2 (.inr (Same.tupS s h1)) rfl ?_
    match a, e with
    | .str [c], e => exact e
    | .str [], e => exact e
    | .str (_ :: _ :: _), e => exact e
    | .non, e => exact e
    | .bl _, e => exact e
    | .int _, e => exact e
    | .tup _, e => exact e
    | .lst _, e => exact e
    | .dct _, e => exact e
    | .obj _ _, e => exact e
    | .exc _ _, e => exact e
    | .scr _, e => exact e
  | lst h1 h2 =>
    refine seqs _ _ _ h2 (.inl (SqL.of (s _ _ h1))) rfl ?_
    match a, e with
    | .str [c], e => exact e
    | .str [], e => exact e
    | .str (_ :: _ :: _), e => exact e
    | .non, e => exact e
    | .bl _, e => exact e
    | .int _, e => exact e
    | .tup _, e => exact e
    | .lst _, e => exact e
    | .dct _, e => exact e
    | .obj _ _, e => exact e
    | .exc _ _, e => exact e
    | .scr _, e => exact e
  | _ => simp [opIn] at e
theorem opd_notIn (hu : X.A.units + 1 < cLine) : OpD X (compareOp .NotIn) opNotIn := by
  refine ⟨fun {G H x y a b d Q} s ra rb e h => ?_⟩
  have e0 : ∃ c, opIn a b = some (.bl c) ∧ d = .bl (!c) := by
    unfold opNotIn at e
    split at e
    · rename_i c hc
      exact ⟨c, hc, (Option.some.inj e).symm⟩
    · cases e
  clear e
  obtain ⟨c0, e, rfl⟩ := e0
  have seqs : ∀ (ds : List D) (p : Addr) (ws : List V), Reps X.K G ws ds → (SqL X.K H p ws ∨ SqT X.K H p ws) → y = .ref p → (if (D.flat a && ds.all D.flat) = true then some (D.bl (ds.any fun y => D.eqv y a)) else none) = some (.bl c0) → rU2 X (compareOp .NotIn) x y H Q := by
    intro ds p ws rs hq ey e
    split at e
    · rename_i hf
      rw [Bool.and_eq_true] at hf
      have e2 := D.bl.inj (Option.some.inj e)
      refine rU2_of op_notIn_seq ⟨p, ws, ey, hq, flatV_of ra hf.1, flats_of rs hf.2, ?_⟩
      rw [if_pos rfl, anyV_of ra hf.1 rs hf.2, e2]
      exact h.bl s
    · cases e
  cases rb with
  | str t =>
    cases ra with
    | str z =>
      match z, e with
      | [c], e =>
        have e2 : decide (c ∈ t) = c0 := D.bl.inj (Option.some.inj e)
        exact rU2_of op_notIn_sign ⟨c, ofL t, rfl, rfl, by rw [ofL_cps, e2]; exact h.bl s⟩
    | _ => simp [opIn] at e
  | @dct pd kvs es h1 h2 =>
    cases ra with
    | str z =>
      have e' : some (D.bl (look z es).isSome) = some (.bl c0) := by
        match z, e with
        | [], e => exact e
        | [c], e => exact e
        | c :: c' :: r, e => exact e
      have e2 := D.bl.inj (Option.some.inj e')
      intro pins s' σ v u I rx ry
      obtain rfl : u = Value.ref _ := ry
      obtain ⟨v1, v2⟩ := valV_of (k := z) h2
      have g := DGet.k (k := .inr (ofL z)) (s _ _ h1)
      refine d_notIn hu I g rx fun s3 I3 => ⟨.bl _, H, I3, rfl, ?_⟩
      have q := h.bl s
      rw [← e2] at q
      cases hl : look z es with
      | none => rw [v1 hl]; rw [hl] at q; exact q
      | some d' =>
        obtain ⟨w, e1, _⟩ := v2 _ hl
        rw [e1]; rw [hl] at q; exact q
    | _ => simp [opIn] at e
  | tup h1 h2 =>
    refine seqs _ _ _ h2 (.inr (Same.tupS s h1)) rfl ?_
    match a, e with
    | .str [c], e => exact e
    | .str [], e => exact e
    | .str (_ :: _ :: _), e => exact e
    | .non, e => exact e
    | .bl _, e => exact e
    | .int _, e => exact e
    | .tup _, e => exact e
    | .lst _, e => exact e
    | .dct _, e => exact e
    | .obj _ _, e => exact e
    | .exc _ _, e => exact e
    | .scr _, e => exact e
  | lst h1 h2 =>
    refine seqs _ _ _ h2 (.inl (SqL.of (s _ _ h1))) rfl ?_
    match a, e with
    | .str [c], e => exact e
    | .str [], e => exact e
    | .str (_ :: _ :: _), e => exact e
    | .non, e => exact e
    | .bl _, e => exact e
    | .int _, e => exact e
    | .tup _, e => exact e
    | .lst _, e => exact e
    | .dct _, e => exact e
    | .obj _ _, e => exact e
    | .exc _ _, e => exact e
    | .scr _, e => exact e
  | _ => simp [opIn] at e

/-! ### subscripts -/
theorem atI_at {α : Type} (xs : List α) (i : Int) : atI xs i = NV.at? xs i := rfl
theorem at_len {α β : Type} {xs : List α} {ys : List β} (h : xs.length = ys.length) {i : Int} {b : β} (e : NV.at? ys i = some b) : ∃ j : Nat, ys[j]? = some b ∧ ∀ a, xs[j]? = some a → atI xs i = some a := by
  rw [← atI_at] at e
  unfold atI at e ⊢
  rw [h]
  cases hj : L2.ixN ys.length i with
  | none => rw [hj] at e; cases e
  | some j =>
    rw [hj] at e
    exact ⟨j, e, fun a ha => ha⟩
theorem ixd (hu : X.A.units + 1 < cLine) : IxD X opIx := by
  refine ⟨fun {G H x y a b d Q} s ra rb e h => ?_⟩
  cases ra with
  | tup h1 h2 =>
    cases rb with
    | int i =>
      obtain ⟨j, e1, e2⟩ := at_len h2.length (show NV.at? _ i = some d from e)
      obtain ⟨v, e3, r⟩ := h2.get e1
      exact rUI_of ix_tup ⟨_, _, i, v, rfl, rfl, Same.tupS s h1, e2 v e3, h v G H (Grow.refl s) r⟩
    | _ => simp [opIx] at e
  | lst h1 h2 =>
    cases rb with
    | int i =>
      obtain ⟨j, e1, e2⟩ := at_len h2.length (show NV.at? _ i = some d from e)
      obtain ⟨v, e3, r⟩ := h2.get e1
      exact rUI_of ix_list ⟨_, _, i, v, rfl, rfl, SqL.of (s _ _ h1), e2 v e3, h v G H (Grow.refl s) r⟩
    | _ => simp [opIx] at e
  | scr h1 h2 =>
    cases rb with
    | int i =>
      obtain ⟨j, e1, e2⟩ := at_len h2.length (show NV.at? _ i = some d from e)
      obtain ⟨v, e3, r⟩ := h2.get e1
      exact rUI_of ix_list ⟨_, _, i, v, rfl, rfl, s.seq h1, e2 v e3, h v G H (Grow.refl s) r⟩
    | _ => simp [opIx] at e
  | str z =>
    cases rb with
    | int i =>
      simp only [opIx] at e
      split at e
      · rename_i hz
        cases ec : NV.at? z i with
        | none => rw [ec] at e; cases e
        | some c =>
          rw [ec] at e
          obtain rfl : D.str [c] = d := Option.some.inj e
          refine rUI_of ix_str ⟨ofL z, i, c, rfl, rfl, ?_, ?_, h.str s⟩
          · rw [ofL_len, ← line_eq]; exact hz
          · rw [ofL_cps]; exact ec
      · cases e
    | _ => simp [opIx] at e
  | @dct pd kvs es h1 h2 =>
    cases rb with
    | str z =>
      obtain ⟨v, e1, r⟩ := (valV_of (k := z) h2).2 d (show look z es = some d from e)
      intro value slice pins s' σ v' u I rx ry hs
      obtain rfl : v' = Value.ref _ := rx
      have g : DGet H pd (.str (ofL z)) (some v) := by
        have g := DGet.k (k := .inr (ofL z)) (s _ _ h1)
        rw [e1] at g
        exact g
      exact tail_any (dict_typeIs I g) PySem.F.slot_dict_getitem.lookup (d_getItem hu I g ry fun w' s3 I3 rw' => ⟨v, H, I3, rw', h v G H (Grow.refl s) r⟩) hs
    | _ => simp [opIx] at e
  | _ => simp [opIx] at e
end
end NV

set_option Elab.async false
set_option linter.all false
set_option maxRecDepth 100000
set_option maxHeartbeats 2000000
/-! Lay5: slices, built-ins, methods by values. -/
namespace NV
open PySem PySem.Spec PyProof.Rows L2
def rUS (X : Cx) : V → Option Int → Option Int → Hp → VK → Prop := fun x lo hi H Q => ∀ (pins : List (Addr × Obj)) (s : Shared) (σ : St) (v vl vu : Value) (sl : Addr), Inv X pins σ H s → RelV x v → s.heap.IsSliceOf sl vl vu .none → IsPart vl lo → IsPart vu hi →
    ∃ T id, typeLookup (.type T) "__getitem__" = pure (some (.builtin id)) ∧ s.TypeIs v T ∧ wpAny (model X.prog X.w) X.A (getItem v (.ref sl)) (EP X pins σ Q) X.xe s
theorem slr_U {X : Cx} : SlR X (rUS X) := fun pins s σ H x v vl vu lo hi sl Q I rx hs pl pu h => h pins s σ v vl vu sl I rx hs pl pu
theorem rUS_of {X : Cx} {r : V → Option Int → Option Int → Hp → VK → Prop} (h : SlR X r) {x : V} {lo hi : Option Int} {H : Hp} {Q : VK} (q : r x lo hi H Q) : rUS X x lo hi H Q := fun pins s σ v vl vu sl I rx hs pl pu => h pins s σ H x v vl vu lo hi sl Q I rx hs pl pu q
structure SlD (X : Cx) (g : D → Option Int → Option Int → Option D) : Prop where
  run : ∀ {G H : Hp} {x : V} {a d : D} {lo hi : Option Int} {Q : VK}, Same G H → Rep X.K G x a → g a lo hi = some d → Fin X.K G H Q d → rUS X x lo hi H Q
theorem clip_sIx (n d : Nat) (o : Option Int) : clip n d o = HT.sIx n d o := by
  cases o <;> rfl
section
variable {X : Cx}
theorem Reps.cut {K : PySem.W.Frag} {H : Hp} {vs : List V} {ds : List D} (h : Reps K H vs ds) (lo hi : Option Int) : Reps K H (cutV vs lo hi) (NV.cut ds lo hi) := by
  unfold cutV NV.cut
  rw [clip_sIx, clip_sIx, h.length]
  exact (h.drop _).take _
theorem sld : SlD X opCut := by
  refine ⟨fun {G H x a d lo hi Q} s ra e h => ?_⟩
  cases ra with
  | str z =>
    simp only [opCut] at e
    split at e
    · rename_i hz
      obtain rfl : D.str _ = d := Option.some.inj e
      refine rUS_of sl_str ⟨ofL z, rfl, by rw [ofL_len, ← line_eq]; exact hz, ?_⟩
      have q := h.str s
      have ez : cutS (ofL z) lo hi = ofL (NV.cut z lo hi) := by
        unfold cutS NV.cut
        rw [clip_sIx, clip_sIx, ofL_len, ofL_cps]
        rfl
      rw [ez]
      exact q
    · cases e
  | lst h1 h2 =>
    obtain rfl : D.lst _ = d := Option.some.inj e
    exact rUS_of sl_list ⟨_, _, rfl, SqL.of (s _ _ h1), h.lst s (h2.cut lo hi)⟩
  | scr h1 h2 =>
    obtain rfl : D.lst _ = d := Option.some.inj e
    exact rUS_of sl_list ⟨_, _, rfl, s.seq h1, h.lst s (h2.cut lo hi)⟩
  | @tup pa xs ds h1 h2 =>
    obtain rfl : D.tup _ = d := Option.some.inj e
    refine rUS_of sl_tupA ⟨_, _, rfl, Same.tupS s h1, fun w => ?_, fun w => h.tup s (h2.cut lo hi)⟩
    refine h.flat s (.tup h1 ?_)
    have : NV.cut ds lo hi = ds := by
      unfold NV.cut
      rw [clip_sIx, clip_sIx, ← h2.length, w.1, w.2, h2.length]
      simp
    rw [this]
    exact h2
  | _ => simp [opCut] at e

theorem ints_vals {K : PySem.W.Frag} {H : Hp} : ∀ {ds : List D} {vs : List V} {ns : List Int}, Reps K H vs ds → intsD ds = some ns → vs = ns.map V.int
  | [], _, _, h, e => by
    cases h
    obtain rfl : [] = _ := Option.some.inj e
    rfl
  | d :: ds, _, ns, h, e => by
    cases h with
    | cons h1 h2 =>
      cases d <;> first | (simp [intsD] at e; done) | skip
      simp only [intsD] at e
      cases e1 : intsD ds with
      | none => rw [e1] at e; cases e
      | some ms =>
        rw [e1] at e
        obtain rfl := Option.some.inj e
        rw [List.map_cons, ← ints_vals h2 e1, h1.int_iff]
theorem strs_vals {K : PySem.W.Frag} {H : Hp} : ∀ {ds : List D} {vs : List V} {ns : List (List Nat)}, Reps K H vs ds → strsD ds = some ns → vs = (ns.map ofL).map V.str
  | [], _, _, h, e => by
    cases h
    obtain rfl : [] = _ := Option.some.inj e
    rfl
  | d :: ds, _, ns, h, e => by
    cases h with
    | cons h1 h2 =>
      cases d <;> first | (simp [strsD] at e; done) | skip
      simp only [strsD] at e
      cases e1 : strsD ds with
      | none => rw [e1] at e; cases e
      | some ms =>
        rw [e1] at e
        obtain rfl := Option.some.inj e
        rw [List.map_cons, List.map_cons, ← strs_vals h2 e1, h1.str_iff]
theorem cd_len : CallD1 X (.builtin "len") opLen := by
  refine ⟨fun {G H x a d Q} s ra e h => ?_⟩
  cases ra with
  | str z =>
    simp only [opLen] at e
    split at e
    · rename_i hz
      obtain rfl := Option.some.inj e
      refine rUC_of call_len_str ⟨ofL z, rfl, by rw [ofL_len, ← line_eq]; exact hz, ?_⟩
      rw [ofL_len]; exact h.int s
    · cases e
  | lst h1 h2 =>
    obtain rfl := Option.some.inj e
    refine rUC_of call_len_seq ⟨_, _, rfl, .inl (SqL.of (s _ _ h1)), ?_⟩
    rw [h2.length]; exact h.int s
  | scr h1 h2 =>
    obtain rfl := Option.some.inj e
    refine rUC_of call_len_seq ⟨_, _, rfl, .inl (s.seq h1), ?_⟩
    rw [h2.length]; exact h.int s
  | tup h1 h2 =>
    obtain rfl := Option.some.inj e
    refine rUC_of call_len_seq ⟨_, _, rfl, .inr (Same.tupS s h1), ?_⟩
    rw [h2.length]; exact h.int s
  | _ => simp [opLen] at e
theorem cd_sum (hc : X.calm = true) : CallD1 X (.builtin "sum") opSum := by
  refine ⟨fun {G H x a d Q} s ra e h => ?_⟩
  cases ra with
  | lst h1 h2 =>
    simp only [opSum, Option.map_eq_some_iff] at e
    obtain ⟨ns, e1, rfl⟩ := e
    exact rUC_of (cr_sum hc) ⟨_, ns, rfl, SqL.of (by rw [← ints_vals h2 e1]; exact s _ _ h1), h.int s⟩
  | _ => simp [opSum] at e
theorem cd_max (hc : X.calm = true) : CallD1 X (.builtin "max") opMaxL := by
  refine ⟨fun {G H x a d Q} s ra e h => ?_⟩
  cases ra with
  | lst h1 h2 =>
    simp only [opMaxL, Option.map_eq_some_iff, Option.bind_eq_some_iff] at e
    obtain ⟨m, ⟨ns, e1, e2⟩, rfl⟩ := e
    refine rUC_of (cr_max hc) ⟨_, ns, rfl, SqL.of (by rw [← ints_vals h2 e1]; exact s _ _ h1), ?_, fun m' hm hle => ?_⟩
    · cases ns with
      | nil => simp at e2
      | cons _ _ => simp
    · obtain ⟨q1, q2⟩ := List.max?_eq_some_iff.mp e2
      have : m' = m := by
        have a1 := hle m q1
        have a2 := q2 m' hm
        omega
      rw [this]; exact h.int s
  | _ => simp [opMaxL] at e
theorem cd_min (hc : X.calm = true) : CallD1 X (.builtin "min") opMinL := by
  refine ⟨fun {G H x a d Q} s ra e h => ?_⟩
  cases ra with
  | lst h1 h2 =>
    simp only [opMinL, Option.map_eq_some_iff, Option.bind_eq_some_iff] at e
    obtain ⟨m, ⟨ns, e1, e2⟩, rfl⟩ := e
    refine rUC_of (cr_min hc) ⟨_, ns, rfl, SqL.of (by rw [← ints_vals h2 e1]; exact s _ _ h1), ?_, fun m' hm hle => ?_⟩
    · cases ns with
      | nil => simp at e2
      | cons _ _ => simp
    · obtain ⟨q1, q2⟩ := List.min?_eq_some_iff.mp e2
      have : m' = m := by
        have a1 := hle m q1
        have a2 := q2 m' hm
        omega
      rw [this]; exact h.int s
  | _ => simp [opMinL] at e
theorem cd_max2 (hc : X.calm = true) : CallD2 X (.builtin "max") opMax2 := by
  refine ⟨fun {G H x y a b d Q} s ra rb e h => ?_⟩
  cases ra <;> cases rb <;> first | (simp [opMax2] at e; done) | skip
  obtain rfl := Option.some.inj e
  exact rUC_of (call_max2 hc) ⟨_, _, rfl, h.int s⟩
theorem cd_min2 (hc : X.calm = true) : CallD2 X (.builtin "min") opMin2 := by
  refine ⟨fun {G H x y a b d Q} s ra rb e h => ?_⟩
  cases ra <;> cases rb <;> first | (simp [opMin2] at e; done) | skip
  obtain rfl := Option.some.inj e
  exact rUC_of (call_min2 hc) ⟨_, _, rfl, h.int s⟩
theorem cd_abs : CallD1 X (.builtin "abs") opAbs := by
  refine ⟨fun {G H x a d Q} s ra e h => ?_⟩
  cases ra <;> first | (simp [opAbs] at e; done) | skip
  obtain rfl := Option.some.inj e
  exact rUC_of call_abs ⟨_, rfl, h.int s⟩
/-- list(x) of a list or tuple -/
theorem cd_list : CallD1 X (.type "list") opList := by
  refine ⟨fun {G H x a d Q} s ra e h => ?_⟩
  cases ra with
  | lst h1 h2 =>
    obtain rfl := Option.some.inj e
    exact rUC_of call_list_of ⟨_, _, rfl, .inl (SqL.of (s _ _ h1)), h.lst s h2⟩
  | scr h1 h2 =>
    obtain rfl := Option.some.inj e
    exact rUC_of call_list_of ⟨_, _, rfl, .inl (s.seq h1), h.lst s h2⟩
  | tup h1 h2 =>
    obtain rfl := Option.some.inj e
    exact rUC_of call_list_of ⟨_, _, rfl, .inr (Same.tupS s h1), h.lst s h2⟩
  | _ => simp [opList] at e
theorem cd_tuple : CallD1 X (.type "tuple") opTuple := by
  refine ⟨fun {G H x a d Q} s ra e h => ?_⟩
  cases ra with
  | lst h1 h2 =>
    obtain rfl := Option.some.inj e
    exact rUC_of call_tuple_of ⟨_, _, rfl, .inl ⟨SqL.of (s _ _ h1), h.tup s h2⟩⟩
  | tup h1 h2 =>
    obtain rfl := Option.some.inj e
    exact rUC_of call_tuple_of ⟨_, _, rfl, .inr ⟨Same.tupS s h1, h.flat s (.tup h1 h2)⟩⟩
  | _ => simp [opTuple] at e

/-! ### methods of texts -/
theorem joinL_eq (s : List Nat) : ∀ parts : List (List Nat), NV.joinL s parts = TL.joinL s parts
  | [] => rfl
  | [_] => rfl
  | x :: y :: r => by
    show x ++ s ++ NV.joinL s (y :: r) = x ++ (s ++ TL.joinL s (y :: r))
    rw [joinL_eq s (y :: r), List.append_assoc]
theorem join_ofL (s : List Nat) (parts : List (List Nat)) : Txt.join (ofL s) (parts.map ofL) = ofL (NV.joinL s parts) := by
  refine TL.ext_tl ?_
  rw [TL.join_eq, TL.tl_join, joinL_eq]
  have : (parts.map ofL).map TL.tl = parts := by
    rw [List.map_map]
    have : (TL.tl ∘ ofL) = id := by
      funext z
      show (ofL z).cps.toList = z
      exact ofL_cps z
    rw [this, List.map_id]
  rw [this]
  show TL.joinL (ofL s).cps.toList parts = (ofL _).cps.toList
  rw [ofL_cps, ofL_cps]
theorem md_join : MtD1 X "str.join" opJoin := by
  refine ⟨fun {G H x y a b d Q} s ra rb e h => ?_⟩
  have main : ∀ (z : List Nat) (ds : List D) (p : Addr) (ws : List V), Reps X.K G ws ds → (SqL X.K H p ws ∨ SqT X.K H p ws) → x = .str (ofL z) → y = .ref p →
      ((strsD ds).bind fun ys => if (ys.map List.length).sum + ys.length * z.length ≤ line then some (D.str (NV.joinL z ys)) else none) = some d → rUM X "str.join" x [y] H Q := by
    intro z ds p ws rs hq ex ey e
    rw [Option.bind_eq_some_iff] at e
    obtain ⟨ys, e1, e2⟩ := e
    split at e2
    · rename_i hl
      obtain rfl := Option.some.inj e2
      have ew := strs_vals rs e1
      subst ew
      refine rUM_of mt_join ⟨ofL z, p, ys.map ofL, ex, by rw [ey], hq, ?_, ?_⟩
      · rw [List.map_map, List.length_map, ofL_len]
        have : (fun x : Str => x.length) ∘ ofL = List.length := by funext q; exact ofL_len q
        show (ys.map ((fun x : Str => x.length) ∘ ofL)).sum + _ ≤ 16777216
        rw [this]
        exact hl
      · rw [join_ofL]
        exact h.str s
    · cases e2
  cases ra with
  | str z =>
    cases rb with
    | lst h1 h2 => exact main z _ _ _ h2 (.inl (SqL.of (s _ _ h1))) rfl rfl e
    | tup h1 h2 => exact main z _ _ _ h2 (.inr (Same.tupS s h1)) rfl rfl e
    | _ => simp [opJoin] at e
  | _ => simp [opJoin] at e
theorem md_index : MtD1 X "str.index" opIndex := by
  refine ⟨fun {G H x y a b d Q} s ra rb e h => ?_⟩
  cases ra with
  | str z =>
    cases rb with
    | str w =>
      match w, e with
      | [c], e =>
        simp only [opIndex] at e
        split at e
        · rename_i hz
          obtain rfl := Option.some.inj e
          obtain ⟨rest, ho⟩ := occ_index z c hz.2
          exact rUM_of mt_sindex ⟨ofL z, ofL [c], _, rest, rfl, rfl, ho, h.int s⟩
        · cases e
    | _ => simp [opIndex] at e
  | _ => simp [opIndex] at e
theorem md_count : MtD1 X "str.count" opCount := by
  refine ⟨fun {G H x y a b d Q} s ra rb e h => ?_⟩
  cases ra with
  | str z =>
    cases rb with
    | str w =>
      match w, e with
      | [c], e =>
        obtain rfl := Option.some.inj e
        exact rUM_of mt_count ⟨ofL z, ofL [c], rfl, rfl, by rw [count_one]; exact h.int s⟩
    | _ => simp [opCount] at e
  | _ => simp [opCount] at e
theorem starts_ofL (s t : List Nat) : Txt.startswith (ofL s) (ofL t) = t.isPrefixOf s := by
  unfold Txt.startswith
  rw [ofL_len, ofL_len, StrLaws.subAt_eq]
  rw [ofL_cps, ofL_cps, ofL_len, List.drop_zero]
  rw [Bool.eq_iff_iff, Bool.and_eq_true, decide_eq_true_eq, beq_iff_eq, List.isPrefixOf_iff_prefix, List.prefix_iff_eq_take]
  constructor
  · intro ⟨_, q⟩; exact q.symm
  · intro q
    refine ⟨?_, q.symm⟩
    have := congrArg List.length q
    rw [List.length_take] at this
    omega
theorem md_starts : MtD1 X "str.startswith" opStarts := by
  refine ⟨fun {G H x y a b d Q} s ra rb e h => ?_⟩
  cases ra <;> cases rb <;> first | (simp [opStarts] at e; done) | skip
  obtain rfl := Option.some.inj e
  exact rUM_of mt_startswith ⟨_, _, rfl, rfl, by rw [starts_ofL]; exact h.bl s⟩
end
end NV

set_option Elab.async false
set_option linter.all false
set_option maxRecDepth 100000
set_option maxHeartbeats 2000000
/-! Lay6: the rules of expressions. -/
namespace NV
open PySem PySem.Spec PyProof.Rows L2
section
variable {X : Cx} {c : Lv} {a b e : Expr} {es : List Expr} {f h l : Ev} {r : Ea} {pos p apos : Pos} {x : Str}

/-- an operation's end: what is wanted of it, once its operands lie there -/
theorem fin_of {K : PySem.W.Frag} {c : Lv} {π : Nat → Addr} {ρ : Env} {G H : Hp} {σ : St} {o : Option D} {d : D} {Q : VK} (S : SE K π ρ G σ H) (e : o = some d) (k : Po K c π ρ G σ H (out o ρ) (JE K Q)) : Fin K G H Q d := fun w G' H' g r => by
  rw [e] at k
  exact k.grow S g w r
theorem some_of {K : PySem.W.Frag} {c : Lv} {π : Nat → Addr} {ρ : Env} {G H : Hp} {σ : St} {o : Option D} {Q : VK} (k : Po K c π ρ G σ H (out o ρ) (JE K Q)) : ∃ d, o = some d := by
  cases o with
  | some d => exact ⟨d, rfl⟩
  | none => exact False.elim k
theorem t_const {d : D} {v : V} (hr : ∀ G, Rep X.K G v d) {σ : St} {H : Hp} {Q : VK} (q : tE X.K c (eC d) σ H Q) : tC v σ H Q := by
  obtain ⟨π, ρ, G, S, k⟩ := q
  exact k.now S v (hr G)
theorem re_int {i : Int} {j : Nat} : PE X (.Constant (.int i) j pos) (tE X.K c (eC (.int i))) := PE_imp pe_int fun _ _ _ q => t_const (fun _ => .int i) q
theorem re_bl {i : Bool} {j : Nat} : PE X (.Constant (.bool i) j pos) (tE X.K c (eC (.bl i))) := PE_imp pe_bl fun _ _ _ q => t_const (fun _ => .bl i) q
theorem re_non {j : Nat} : PE X (.Constant .none j pos) (tE X.K c (eC .non)) := PE_imp pe_non fun _ _ _ q => t_const (fun _ => .non) q
theorem re_str {z : Str} {s : List Nat} {j : Nat} (hz : z = ofL s) : PE X (.Constant (.str z) j pos) (tE X.K c (eC (.str s))) := by
  subst hz
  exact PE_imp pe_str fun _ _ _ q => t_const (fun _ => .str s) q
/-- a module's constant -/
theorem re_glob {d : D} {v : V} {u : Value} (hg : Gl X x) (hm : X.mg x = some u) (rv : RelV v u) (hr : ∀ G, Rep X.K G v d) (hd : (x == ("__debug__" : Str)) = false := by decide) : PE X (.Name x pos) (tE X.K c (eC d)) :=
  PE_imp (pe_glob hg hm rv hd) fun _ _ _ q => t_const hr q
theorem SE.val {K : PySem.W.Frag} {π : Nat → Addr} {ρ : Env} {G H : Hp} {σ : St} {i : Nat} {d : D} (S : SE K π ρ G σ H) (e : ρ[i]? = some (.v d)) : ∃ w, σ[i]? = some (some w) ∧ Rep K G w d := S.ok i _ e
/-- a name -/
theorem re_V (i : Nat) (hN : X.N[i]? = some x) (hv : Vis X.env.scope x) (hd : (x == ("__debug__" : Str)) = false := by decide) (hcd : (x == ("__classdict__" : Str)) = false := by decide) : PE X (.Name x pos) (tE X.K c (eV i)) := by
  refine PE_imp (pe_var hN hv hd hcd) fun σ H Q q => ?_
  obtain ⟨π, ρ, G, S, k⟩ := q
  unfold eV at k
  cases e : ρ[i]? with
  | none => rw [e] at k; exact False.elim k
  | some s =>
    rw [e] at k
    cases s with
    | v d =>
      obtain ⟨w, e1, r1⟩ := S.val e
      exact ⟨w, e1, k.now S w r1⟩
    | _ => exact False.elim k
theorem re_2 {op : Operator} {g : D → D → Option D} (ho : OpD X (binaryOp op) g) (ha : PE X a (tE X.K c f)) (hb : PE X b (tE X.K c h)) : PE X (.BinOp a op b pos) (tE X.K c (e2 g f h)) := by
  refine PE_imp (pe_op opr_U ha hb) fun σ H Q q => ?_
  obtain ⟨π, ρ, G, S, k⟩ := q
  refine ⟨π, ρ, G, S, (Po.bind k).mono fun d1 ρ1 G1 H1 _ _ S1 k1 w1 r1 => ⟨π, ρ1, G1, S1, (Po.bind k1).mono fun d2 ρ2 G2 H2 s2 _ S2 k2 w2 r2 => ?_⟩⟩
  obtain ⟨d, e⟩ := some_of k2
  exact ho.run S2.sub (r1.mono s2 _) r2 e (fin_of S2 e k2)
theorem t_2 {f h : Ev} {R : V → V → Hp → VK → Prop} {g : D → D → Option D} {σ : St} {H : Hp} {Q : VK} (hR : ∀ {G H : Hp} {x y : V} {a b d : D} {Q : VK}, Same G H → Rep X.K G x a → Rep X.K G y b → g a b = some d → Fin X.K G H Q d → R x y H Q)
    (q : tE X.K c (e2 g f h) σ H Q) : tOp R (tE X.K c f) (tE X.K c h) σ H Q := by
  obtain ⟨π, ρ, G, S, k⟩ := q
  refine ⟨π, ρ, G, S, (Po.bind k).mono fun d1 ρ1 G1 H1 _ _ S1 k1 w1 r1 => ⟨π, ρ1, G1, S1, (Po.bind k1).mono fun d2 ρ2 G2 H2 s2 _ S2 k2 w2 r2 => ?_⟩⟩
  obtain ⟨d, e⟩ := some_of k2
  exact hR S2.sub (r1.mono s2 _) r2 e (fin_of S2 e k2)
theorem re_un {op : UnaryOp} {g : D → Option D} (ho : UnD X (unaryOp op) g) (ha : PE X a (tE X.K c f)) : PE X (.UnaryOp op a pos) (tE X.K c (e1 g f)) := by
  refine PE_imp (pe_un unr_U ha) fun σ H Q q => ?_
  obtain ⟨π, ρ, G, S, k⟩ := q
  refine ⟨π, ρ, G, S, (Po.bind k).mono fun d1 ρ1 G1 H1 _ _ S1 k1 w1 r1 => ?_⟩
  obtain ⟨d, e⟩ := some_of k1
  exact ho.run S1.sub r1 e (fin_of S1 e k1)
theorem re_cmp {op : CmpOp} {g : D → D → Option D} (ho : OpD X (compareOp op) g) (ha : PE X a (tE X.K c f)) (hb : PE X b (tE X.K c h)) (hm : behindInMarks op b = false) : PE X (.Compare a [op] [b] pos) (tE X.K c (e2 g f h)) :=
  PE_imp (pe_cmpR opr_U ha hb hm) fun σ H Q q => t_2 ho.run q
/-- from a value to a test -/
theorem t_test {f : Ev} {te : TE} {σ : St} {H : Hp} {Q : Bool → Hp → Prop} (hR : ∀ Q, tE X.K c f σ H Q → te σ H Q) (q : tT X.K c f σ H Q) : te σ H fun x H' => ∃ k, x = .bl k ∧ Q k H' := by
  obtain ⟨π, ρ, G, S, k⟩ := q
  refine hR _ ⟨π, ρ, G, S, k.mono fun d ρ' G' H' _ _ _ q w r => ?_⟩
  obtain ⟨b, rfl, q⟩ := q
  exact ⟨b, r.bl_iff, q⟩
theorem rt_cmp {op : CmpOp} {g : D → D → Option D} (ho : OpD X (compareOp op) g) (ha : PE X a (tE X.K c f)) (hb : PE X b (tE X.K c h)) (hm : behindInMarks op b = false) : PT X (.Compare a [op] [b] pos) (tT X.K c (e2 g f h)) :=
  PT_imp (pt_cmpR opr_U ha hb hm) fun σ H Q q => t_test (te := tOp (rU2 X (compareOp op)) (tE X.K c f) (tE X.K c h)) (fun Q q => t_2 ho.run q) q
/-- a value as a test -/
theorem rt_val (ha : PE X a (tE X.K c f)) (he : ∀ whole, isTrue a X.env whole = (do let v ← whole; standAt a.pos; holding [v] (truthy v)) := by intro _; rfl) : PT X a (tT X.K c f) :=
  PT_imp (pt_val ha he) fun σ H Q q => t_test (fun Q q => q) q
theorem t_chain {g1 g2 : D → D → Option D} {f1 f2 : Value → Value → Sem Value} (h1 : OpD X f1 g1) (h2 : OpD X f2 g2) {σ : St} {H : Hp} {Q : VK} (q : tE X.K c (eChain g1 g2 f h l) σ H Q) :
    tChain (rU2 X f1) (rU2 X f2) (tE X.K c f) (tE X.K c h) (tE X.K c l) σ H Q := by
  obtain ⟨π, ρ, G, S, k⟩ := q
  refine ⟨π, ρ, G, S, (Po.bind k).mono fun d1 ρ1 G1 H1 _ _ S1 k1 w1 r1 => ⟨π, ρ1, G1, S1, (Po.bind k1).mono fun d2 ρ2 G2 H2 s2 _ S2 k2 w2 r2 => ?_⟩⟩
  have k3 := Po.bind k2
  cases e : g1 d1 d2 with
  | none => rw [e] at k3; exact False.elim k3
  | some z =>
    rw [e] at k3
    refine h1.run S2.sub (r1.mono s2 _) r2 e fun w G3 H3 gr rz => ?_
    have S3 := (S2.grow gr).1
    have k4 := k3.grow S2 gr
    cases z with
    | bl kb =>
      obtain rfl := rz.bl_iff
      refine ⟨kb, rfl, ?_⟩
      cases kb with
      | true =>
        rw [if_pos rfl]
        refine ⟨π, ρ2, G3, S3, (Po.bind k4).mono fun d4 ρ4 G4 H4 s4 _ S4 k5 w4 r4 => ?_⟩
        obtain ⟨d, e5⟩ := some_of k5
        exact h2.run S4.sub ((r2.mono gr.g _).mono s4 _) r4 e5 (fin_of S4 e5 k5)
      | false =>
        rw [if_neg Bool.false_ne_true]
        exact k4.now S3 _ (.bl false)
    | _ => exact False.elim k4
theorem re_chain {op1 op2 : CmpOp} {g1 g2 : D → D → Option D} {d : Expr} (h1 : OpD X (compareOp op1) g1) (h2 : OpD X (compareOp op2) g2) (ha : PE X a (tE X.K c f)) (hb : PE X b (tE X.K c h)) (hd : PE X d (tE X.K c l))
    (hm : lastMarks [op1, op2] [b, d] = false := by with_unfolding_all rfl) : PE X (.Compare a [op1, op2] [b, d] pos) (tE X.K c (eChain g1 g2 f h l)) :=
  PE_imp (pe_chain opr_U opr_U ha hb hd hm) fun σ H Q q => t_chain h1 h2 q
theorem rt_chain {op1 op2 : CmpOp} {g1 g2 : D → D → Option D} {d : Expr} (h1 : OpD X (compareOp op1) g1) (h2 : OpD X (compareOp op2) g2) (ha : PE X a (tE X.K c f)) (hb : PE X b (tE X.K c h)) (hd : PE X d (tE X.K c l))
    (hm : lastMarks [op1, op2] [b, d] = false := by with_unfolding_all rfl) : PT X (.Compare a [op1, op2] [b, d] pos) (tT X.K c (eChain g1 g2 f h l)) :=
  PT_imp (pt_chain opr_U opr_U ha hb hd hm) fun σ H Q q => t_test (te := tChain _ _ (tE X.K c f) (tE X.K c h) (tE X.K c l)) (fun Q q => t_chain h1 h2 q) q
/-! and, or, not -/
theorem re_one {op : BoolOp} (ha : PE X a (tE X.K c f)) : PE X (.BoolOp op [a] pos) (tE X.K c f) := pe_one ha
theorem re_and {rest : List Expr} (ha : PE X a (tE X.K c f)) (hb : PE X (.BoolOp .And (b :: rest) pos) (tE X.K c h)) : PE X (.BoolOp .And (a :: b :: rest) pos) (tE X.K c (eAnd f h)) := by
  refine PE_imp (pe_and ha hb) fun σ H Q q => ?_
  obtain ⟨π, ρ, G, S, k⟩ := q
  refine ⟨π, ρ, G, S, (Po.bind k).mono fun d1 ρ1 G1 H1 _ _ S1 k1 w1 r1 => ?_⟩
  cases d1 with
  | bl z =>
    refine ⟨z, r1.bl_iff, ?_⟩
    cases z with
    | true => exact iteT ⟨π, ρ1, G1, S1, k1⟩
    | false => exact iteF (k1.now S1 _ (.bl false))
  | _ => exact False.elim k1
theorem re_or {rest : List Expr} (ha : PE X a (tE X.K c f)) (hb : PE X (.BoolOp .Or (b :: rest) pos) (tE X.K c h)) : PE X (.BoolOp .Or (a :: b :: rest) pos) (tE X.K c (eOr f h)) := by
  refine PE_imp (pe_or ha hb) fun σ H Q q => ?_
  obtain ⟨π, ρ, G, S, k⟩ := q
  refine ⟨π, ρ, G, S, (Po.bind k).mono fun d1 ρ1 G1 H1 _ _ S1 k1 w1 r1 => ?_⟩
  cases d1 with
  | bl z =>
    refine ⟨z, r1.bl_iff, ?_⟩
    cases z with
    | true => exact iteT (k1.now S1 _ (.bl true))
    | false => exact iteF ⟨π, ρ1, G1, S1, k1⟩
  | _ => exact False.elim k1
theorem re_not (ha : PE X a (tE X.K c f)) : PE X (.UnaryOp .Not a pos) (tE X.K c (e1 opNot f)) := by
  refine PE_imp (pe_not ha) fun σ H Q q => ?_
  obtain ⟨π, ρ, G, S, k⟩ := q
  refine ⟨π, ρ, G, S, (Po.bind k).mono fun d1 ρ1 G1 H1 _ _ S1 k1 w1 r1 => ?_⟩
  cases d1 with
  | bl z => exact ⟨z, r1.bl_iff, k1.now S1 _ (.bl _)⟩
  | _ => exact False.elim k1
theorem rt_not (ha : PT X a (tT X.K c f)) : PT X (.UnaryOp .Not a pos) (tT X.K c (e1 opNot f)) := by
  refine PT_imp (pt_not ha) fun σ H Q q => ?_
  obtain ⟨π, ρ, G, S, k⟩ := q
  refine ⟨π, ρ, G, S, (Po.bind k).mono fun d1 ρ1 G1 H1 _ _ S1 k1 => ?_⟩
  cases d1 with
  | bl z =>
    obtain ⟨b, e, q⟩ := k1.now S1
    obtain rfl := D.bl.inj e
    exact ⟨z, rfl, q⟩
  | _ => exact False.elim k1
theorem rw_and1 (ha : PT X a (tT X.K c f)) : PW X (.BoolOp .And [a] pos) (tT X.K c f) := pw_and1 ha
theorem rw_or1 (ha : PT X a (tT X.K c f)) : PW X (.BoolOp .Or [a] pos) (tT X.K c f) := pw_or1 ha
theorem rw_and {rest : List Expr} (ha : PT X a (tT X.K c f)) (hb : PW X (.BoolOp .And (b :: rest) pos) (tT X.K c h)) : PW X (.BoolOp .And (a :: b :: rest) pos) (tT X.K c (eAnd f h)) := by
  refine PW_imp (pw_and ha hb) fun σ H Q q => ?_
  obtain ⟨π, ρ, G, S, k⟩ := q
  refine ⟨π, ρ, G, S, (Po.bind k).mono fun d1 ρ1 G1 H1 _ _ S1 k1 => ?_⟩
  cases d1 with
  | bl z =>
    refine ⟨z, rfl, ?_⟩
    cases z with
    | true => exact iteT ⟨π, ρ1, G1, S1, k1⟩
    | false =>
      obtain ⟨b, e, q⟩ := k1.now S1
      obtain rfl := D.bl.inj e
      exact iteF q
  | _ => exact False.elim k1
theorem rw_or {rest : List Expr} (ha : PT X a (tT X.K c f)) (hb : PW X (.BoolOp .Or (b :: rest) pos) (tT X.K c h)) : PW X (.BoolOp .Or (a :: b :: rest) pos) (tT X.K c (eOr f h)) := by
  refine PW_imp (pw_or ha hb) fun σ H Q q => ?_
  obtain ⟨π, ρ, G, S, k⟩ := q
  refine ⟨π, ρ, G, S, (Po.bind k).mono fun d1 ρ1 G1 H1 _ _ S1 k1 => ?_⟩
  cases d1 with
  | bl z =>
    refine ⟨z, rfl, ?_⟩
    cases z with
    | true =>
      obtain ⟨b, e, q⟩ := k1.now S1
      obtain rfl := D.bl.inj e
      exact iteT q
    | false => exact iteF ⟨π, ρ1, G1, S1, k1⟩
  | _ => exact False.elim k1
theorem rt_w (h : PW X a (tT X.K c f)) : PT X a (tT X.K c f) := h.pt
theorem re_if {d : Expr} (hc : PT X d (tT X.K c l)) (ha : PE X a (tE X.K c f)) (hb : PE X b (tE X.K c h)) : PE X (.IfExp d a b pos) (tE X.K c (eIf l f h)) := by
  refine PE_imp (pe_ifExp hc ha hb) fun σ H Q q => ?_
  obtain ⟨π, ρ, G, S, k⟩ := q
  refine ⟨π, ρ, G, S, (Po.bind k).mono fun d1 ρ1 G1 H1 _ _ S1 k1 => ?_⟩
  cases d1 with
  | bl z =>
    refine ⟨z, rfl, ?_⟩
    cases z with
    | true => exact iteT ⟨π, ρ1, G1, S1, k1⟩
    | false => exact iteF ⟨π, ρ1, G1, S1, k1⟩
  | _ => exact False.elim k1
/-! subscripts -/
theorem re_ix (hu : X.A.units + 1 < cLine) (ha : PE X a (tE X.K c f)) (hb : PE X b (tE X.K c h)) (hs : PlainIx b := by exact fun _ _ => rfl) : PE X (.Subscript a b pos) (tE X.K c (e2 opIx f h)) :=
  PE_imp (pe_ix ixr_U ha hb hs) fun σ H Q q => t_2 (ixd hu).run q
def tP (K : PySem.W.Frag) (c : Lv) (f : Option Ev) : TO := fun σ H Q => ∃ π ρ G, SE K π ρ G σ H ∧ Po K c π ρ G σ H (pt f ρ) fun o _ _ H' => Q o H'
theorem rp_none : L2.PO X none (tP X.K c none) := ⟨fun pins s σ H Q I hw => po_none.run pins s σ H Q I (by
  obtain ⟨π, ρ, G, S, k⟩ := hw
  exact k.now S)⟩
theorem rp_some (ha : PE X a (tE X.K c f)) : L2.PO X (some a) (tP X.K c (some f)) := ⟨fun pins s σ H Q I hw => (po_some ha).run pins s σ H Q I (by
  obtain ⟨π, ρ, G, S, k⟩ := hw
  refine ⟨π, ρ, G, S, (Po.bind k).mono fun d1 ρ1 G1 H1 _ _ S1 k1 w1 r1 => ?_⟩
  cases d1 with
  | int i => exact ⟨i, r1.int_iff, k1.now S1⟩
  | _ => exact False.elim k1)⟩
theorem re_cut {lo hi : Option Expr} {l1 h1 : Option Ev} {p2 : Pos} (ha : PE X a (tE X.K c f)) (hl : L2.PO X lo (tP X.K c l1)) (hh : L2.PO X hi (tP X.K c h1)) : PE X (.Subscript a (.Slice lo hi none p2) pos) (tE X.K c (eCut f l1 h1)) := by
  refine PE_imp (pe_slice slr_U ha hl hh) fun σ H Q q => ?_
  obtain ⟨π, ρ, G, S, k⟩ := q
  refine ⟨π, ρ, G, S, (Po.bind k).mono fun d1 ρ1 G1 H1 _ _ S1 k1 w1 r1 => ⟨π, ρ1, G1, S1, (Po.bind k1).mono fun o2 ρ2 G2 H2 s2 _ S2 k2 => ⟨π, ρ2, G2, S2, (Po.bind k2).mono fun o3 ρ3 G3 H3 s3 _ S3 k3 => ?_⟩⟩⟩
  obtain ⟨d, e⟩ := some_of k3
  exact sld.run S3.sub ((r1.mono s2 _).mono s3 _) e (fin_of S3 e k3)
/-! displays -/
theorem ra_nil : PA X [] (tA X.K c aNil) := ⟨fun pos pins s σ H Q I hw => pa_nil.run pos pins s σ H Q I (by
  obtain ⟨π, ρ, G, S, k⟩ := hw
  exact k.now S [] .nil)⟩
theorem ra_cons (ha : PE X a (tE X.K c f)) (hr : PA X es (tA X.K c r)) (hs : starEach (a :: es) X.env = (false, eval a X.env) :: starEach es X.env := by rfl) : PA X (a :: es) (tA X.K c (aCons f r)) := ⟨fun pos pins s σ H Q I hw => (pa_cons ha hr hs).run pos pins s σ H Q I (by
  obtain ⟨π, ρ, G, S, k⟩ := hw
  refine ⟨π, ρ, G, S, (Po.bind k).mono fun d1 ρ1 G1 H1 _ _ S1 k1 w1 r1 => ⟨π, ρ1, G1, S1, (Po.bind k1).mono fun d2 ρ2 G2 H2 s2 _ S2 k2 w2 r2 => ?_⟩⟩
  exact k2.now S2 (w1 :: w2) (.cons (r1.mono s2 _) r2))⟩
theorem re_tup {x1 : Nat} (hr : PA X es (tA X.K c r)) : PE X (.Tuple es x1 pos) (tE X.K c (eTup r)) := by
  refine PE_imp (pe_tup hr) fun σ H Q q => ?_
  obtain ⟨π, ρ, G, S, k⟩ := q
  refine ⟨π, ρ, G, S, (Po.bind k).mono fun d1 ρ1 G1 H1 _ _ S1 k1 w1 r1 => ?_⟩
  split at k1
  · rename_i hl
    refine ⟨by rw [r1.length, ← line_eq]; exact hl, ?_⟩
    exact Fin.tup S1.sub r1 fun w G' H' g rw' => k1.grow S1 g w rw'
  · exact False.elim k1
theorem re_lst (hr : PA X es (tA X.K c r)) : PE X (.List es pos) (tE X.K c (eLst r)) := by
  refine PE_imp (pe_lst hr) fun σ H Q q => ?_
  obtain ⟨π, ρ, G, S, k⟩ := q
  refine ⟨π, ρ, G, S, (Po.bind k).mono fun d1 ρ1 G1 H1 _ _ S1 k1 w1 r1 => ?_⟩
  split at k1
  · rename_i hl
    refine ⟨by rw [r1.length, ← line_eq]; exact hl, ?_⟩
    exact Fin.lst S1.sub r1 fun w G' H' g rw' => k1.grow S1 g w rw'
  · exact False.elim k1
/-! built-ins -/
def tPE1 (f : Ev) : Ea := fun ρ => (f ρ).bind fun a ρ => .ok [a] ρ
theorem t_cb1 {fv : Value} {g : D → Option D} (cd : CallD1 X fv g) {σ : St} {H : Hp} {Q : VK} (q : tE X.K c (e1 g f) σ H Q) : tCB (rUC X fv) (tCons (tE X.K c f) tNil) σ H Q := by
  obtain ⟨π, ρ, G, S, k⟩ := q
  refine ⟨π, ρ, G, S, (Po.bind k).mono fun d1 ρ1 G1 H1 _ _ S1 k1 w1 r1 => ?_⟩
  obtain ⟨d, e⟩ := some_of k1
  exact cd.run S1.sub r1 e (fin_of S1 e k1)
theorem t_cb2 {fv : Value} {g : D → D → Option D} (cd : CallD2 X fv g) {σ : St} {H : Hp} {Q : VK} (q : tE X.K c (e2 g f h) σ H Q) : tCB (rUC X fv) (tCons (tE X.K c f) (tCons (tE X.K c h) tNil)) σ H Q := by
  obtain ⟨π, ρ, G, S, k⟩ := q
  refine ⟨π, ρ, G, S, (Po.bind k).mono fun d1 ρ1 G1 H1 _ _ S1 k1 w1 r1 => ⟨π, ρ1, G1, S1, (Po.bind k1).mono fun d2 ρ2 G2 H2 s2 _ S2 k2 w2 r2 => ?_⟩⟩
  obtain ⟨d, e⟩ := some_of k2
  exact cd.run S2.sub (r1.mono s2 _) r2 e (fin_of S2 e k2)
theorem re_b1 {id : String} {g : D → Option D} (cd : CallD1 X (.builtin id) g) (hg : Gl X x) (hm : X.mg x = none) (hv : bootBuiltins x = some (.builtin id)) (ha : PE X a (tE X.K c f)) (hn : x ≠ "__name__" := by decide) (hdb : (x == ("__debug__" : Str)) = false := by decide)
    (hs : starEach [a] X.env = (false, eval a X.env) :: starEach [] X.env := by rfl) : PE X (.Call (.Name x p) [a] [] pos) (tE X.K c (e1 g f)) :=
  PE_imp (pe_callB callr_U hg hm hv (pa_cons ha pa_nil hs) hn hdb hs rfl) fun σ H Q q => t_cb1 cd q
theorem re_b2 {id : String} {g : D → D → Option D} (cd : CallD2 X (.builtin id) g) (hg : Gl X x) (hm : X.mg x = none) (hv : bootBuiltins x = some (.builtin id)) (ha : PE X a (tE X.K c f)) (hb : PE X b (tE X.K c h)) (hn : x ≠ "__name__" := by decide) (hdb : (x == ("__debug__" : Str)) = false := by decide)
    (hs : starEach [a, b] X.env = (false, eval a X.env) :: starEach [b] X.env := by rfl) (hs2 : starEach [b] X.env = (false, eval b X.env) :: starEach [] X.env := by rfl) (hpl : (backTo pos (starEach [b] X.env)).any (·.1) = false := by rfl) : PE X (.Call (.Name x p) [a, b] [] pos) (tE X.K c (e2 g f h)) :=
  PE_imp (pe_callB callr_U hg hm hv (pa_cons ha (pa_cons hb pa_nil hs2) hs) hn hdb hs hpl) fun σ H Q q => t_cb2 cd q
theorem re_t1 {id : String} {g : D → Option D} (cd : CallD1 X (.type id) g) (hg : Gl X x) (hm : X.mg x = none) (hv : bootBuiltins x = some (.type id)) (ha : PE X a (tE X.K c f)) (hn : x ≠ "__name__" := by decide) (hdb : (x == ("__debug__" : Str)) = false := by decide)
    (hs : starEach [a] X.env = (false, eval a X.env) :: starEach [] X.env := by rfl) : PE X (.Call (.Name x p) [a] [] pos) (tE X.K c (e1 g f)) :=
  PE_imp (pe_callTy callr_U hg hm hv (pa_cons ha pa_nil hs) hn hdb hs rfl) fun σ H Q q => t_cb1 cd q
/-- s.m(e), s a text -/
theorem re_m1 {id : String} {name : Str} {g : D → D → Option D} (slot : Slot "str" name id) (ty : typeOf (.builtin id) = pure (.type "method_descriptor")) (md : MtD1 X id g) (ha : PE X a (tE X.K c f)) (hb : PE X b (tE X.K c h))
    (hs : starEach [b] X.env = [(false, eval b X.env)] := by rfl) (hbase : attributeBase a name X.env (eval a X.env) = eval a X.env := by rfl) (hline : (apos.endLine == pos.line) = true := by rfl) :
    PE X (.Call (.Attribute a name apos) [b] [] pos) (tE X.K c (eM g f h)) := by
  refine PE_imp (pe_m1 slot ty mtr_U ha hb hs hbase hline) fun σ H Q q => ?_
  obtain ⟨π, ρ, G, S, k⟩ := q
  refine ⟨π, ρ, G, S, (Po.bind k).mono fun d1 ρ1 G1 H1 _ _ S1 k1 w1 r1 => ?_⟩
  cases d1 with
  | str s =>
    refine ⟨⟨_, r1.str_iff⟩, π, ρ1, G1, S1, (Po.bind k1).mono fun d2 ρ2 G2 H2 s2 _ S2 k2 w2 r2 => ?_⟩
    obtain ⟨d, e⟩ := some_of k2
    exact md.run S2.sub (r1.mono s2 _) r2 e (fin_of S2 e k2)
  | _ => exact False.elim k1
end
end NV

set_option Elab.async false
set_option linter.all false
set_option maxRecDepth 100000
set_option maxHeartbeats 2000000
/-! Lay7: environments that turn; statements. -/
namespace NV
open PySem PySem.Spec PyProof.Rows L2
section
variable {K : PySem.W.Frag} {π : Nat → Addr} {ρ ρ1 ρ' : Env} {G G1 G' : Hp} {σ σ1 σ' : St} {H H1 H' : Hp} {c : Lv} {α β : Type}
theorem RR.back {r : Sl} {w : V} (e : Ext ρ σ G H ρ1 σ1 G1 H1) (h : RR K ρ1 σ1 H1 ρ' σ' G' H' r w) : RR K ρ σ H ρ' σ' G' H' r w := by
  cases r with
  | v d => exact h
  | o d =>
    obtain ⟨p, h1, h2, h3, h4, h5⟩ := h
    refine ⟨p, h1, h2, h3, h4, ?_⟩
    cases q : H p with
    | none => exact .inl rfl
    | some o =>
      by_cases n : Ownd ρ σ p
      · exact .inr n
      · obtain ⟨a, b, _⟩ := e p o q n
        rcases h5 with z | z
        · rw [a] at z; cases z
        · exact absurd z b
  | _ => exact h
theorem PoS.step {r : Res Fl} {D : Ends} (s : Same G G1) (e : Ext ρ σ G H ρ1 σ1 G1 H1) (h : PoS K c π ρ G σ H r D) : PoS K c π ρ1 G1 σ1 H1 r D := by
  cases r with
  | ok b ρ' =>
    cases b with
    | nx => exact fun σ' G' H' s' e' S => h σ' G' H' (s.trans s') (e.trans e') S
    | brk => exact fun σ' G' H' s' e' S => h σ' G' H' (s.trans s') (e.trans e') S
    | cnt => exact fun σ' G' H' s' e' S => h σ' G' H' (s.trans s') (e.trans e') S
    | ret r => exact fun w σ' G' H' s' e' S q => h w σ' G' H' (s.trans s') (e.trans e') S (q.back e)
  | rz x ρ' => exact fun cls d σ' G' H' s' e' S => h cls d σ' G' H' (s.trans s') (e.trans e') S
  | st => exact h
theorem PoS.bind {r : Res α} {k : α → Env → Res Fl} {D : Ends} (h : PoS K c π ρ G σ H (r.bind k) D) : Po K c π ρ G σ H r fun a ρ1 G1 H1 => PoS K c π ρ1 G1 σ H1 (k a ρ1) D := by
  cases r with
  | ok b ρ' => exact fun G' H' s' e' S => PoS.step s' e' h
  | rz x ρ' => exact fun cls d G' H' s' e' S z => h cls d σ G' H' s' e' S z
  | st => exact h
theorem getset {ρ : List Sl} {i j : Nat} {s t : Sl} (h : (ρ.set i s)[j]? = some t) : (j = i ∧ i < ρ.length ∧ t = s) ∨ (j ≠ i ∧ ρ[j]? = some t) := by
  by_cases e : i = j
  · subst e
    by_cases hl : i < ρ.length
    · rw [List.getElem?_set_self hl] at h
      exact .inl ⟨rfl, hl, (Option.some.inj h).symm⟩
    · rw [List.getElem?_eq_none (by simpa using hl)] at h
      cases h
  · rw [List.getElem?_set_ne e] at h
    exact .inr ⟨fun z => e z.symm, h⟩
/-- a slot forgotten -/
theorem SE.kill (S : SE K π ρ G σ H) (i : Nat) : SE K π (ρ.set i .un) G σ H ∧ Ext ρ σ G H (ρ.set i .un) σ G H := by
  refine ⟨⟨S.sub, by rw [List.length_set]; exact S.len, fun j s h => ?_, fun j k b s t h1 h2 o1 o2 => ?_⟩, fun b o h n => ⟨h, fun ⟨j, s, h1, o1, h2⟩ => ?_, fun z => z⟩⟩
  · rcases getset h with ⟨_, _, rfl⟩ | ⟨_, h⟩
    · trivial
    · exact S.ok j s h
  · rcases getset h1 with ⟨_, _, rfl⟩ | ⟨_, h1⟩
    · cases o1
    · rcases getset h2 with ⟨_, _, rfl⟩ | ⟨_, h2⟩
      · cases o2
      · exact S.inj j k b s t h1 h2 o1 o2
  · rcases getset h1 with ⟨_, _, rfl⟩ | ⟨_, h1⟩
    · cases o1
    · exact n ⟨j, s, h1, o1, h2⟩
theorem SE.wipe (S : SE K π ρ G σ H) : ∀ ks : List Nat, SE K π (wipeE ρ ks) G σ H ∧ Ext ρ σ G H (wipeE ρ ks) σ G H
  | [] => ⟨S, Ext.refl⟩
  | i :: r => by
    obtain ⟨S1, e1⟩ := SE.wipe S r
    obtain ⟨S2, e2⟩ := S1.kill i
    exact ⟨S2, e1.trans e2⟩
theorem sset {σ : St} {i j : Nat} {w : V} (h : j ≠ i) : (σ.set i (some w))[j]? = σ[j]? := by
  rw [List.getElem?_set_ne (Ne.symm h)]
/-- a value stored -/
theorem SE.set (S : SE K π ρ G σ H) {d : D} {w : V} (r : Rep K G w d) (i : Nat) : SE K π (ρ.set i (.v d)) G (σ.set i (some w)) H ∧ Ext ρ σ G H (ρ.set i (.v d)) (σ.set i (some w)) G H := by
  refine ⟨⟨S.sub, by rw [List.length_set, List.length_set]; exact S.len, fun j s h => ?_, fun j k b s t h1 h2 o1 o2 q1 q2 => ?_⟩, fun b o h n => ⟨h, fun ⟨j, s, h1, o1, h2⟩ => ?_, fun z => z⟩⟩
  · rcases getset h with ⟨rfl, hl, rfl⟩ | ⟨ne, h⟩
    · exact ⟨w, by rw [List.getElem?_set_self (by rw [← S.len]; exact hl)], r⟩
    · rw [sset ne]; exact S.ok j s h
  · rcases getset h1 with ⟨_, _, rfl⟩ | ⟨n1, h1⟩
    · cases o1
    · rcases getset h2 with ⟨_, _, rfl⟩ | ⟨n2, h2⟩
      · cases o2
      · rw [sset n1] at q1
        rw [sset n2] at q2
        exact S.inj j k b s t h1 h2 o1 o2 q1 q2
  · rcases getset h1 with ⟨_, _, rfl⟩ | ⟨n1, h1⟩
    · cases o1
    · rw [sset n1] at h2
      exact n ⟨j, s, h1, o1, h2⟩
/-- an own object stored: it is nobody else's -/
theorem SE.setO (S : SE K π ρ G σ H) {d : D} {p : Addr} (g : G p = none) (o : Own K G H p d) (n : ¬ Ownd ρ σ p) (i : Nat) : SE K π (ρ.set i (.o d)) G (σ.set i (some (.ref p))) H := by
  refine ⟨S.sub, by rw [List.length_set, List.length_set]; exact S.len, fun j s h => ?_, fun j k b s t h1 h2 o1 o2 q1 q2 => ?_⟩
  · rcases getset h with ⟨rfl, hl, rfl⟩ | ⟨ne, h⟩
    · exact ⟨p, by rw [List.getElem?_set_self (by rw [← S.len]; exact hl)], g, o⟩
    · rw [sset ne]; exact S.ok j s h
  · rcases getset h1 with ⟨e1, l1, rfl⟩ | ⟨n1, h1⟩
    · rcases getset h2 with ⟨e2, _, rfl⟩ | ⟨n2, h2⟩
      · rw [e1, e2]
      · exfalso
        rw [e1, List.getElem?_set_self (by rw [← S.len]; exact l1)] at q1
        have eb : p = b := V.ref.inj (Option.some.inj (Option.some.inj q1))
        rw [sset n2] at q2
        exact n ⟨k, t, h2, o2, by rw [eb]; exact q2⟩
    · rcases getset h2 with ⟨e2, l2, rfl⟩ | ⟨n2, h2⟩
      · exfalso
        rw [e2, List.getElem?_set_self (by rw [← S.len]; exact l2)] at q2
        have eb : p = b := V.ref.inj (Option.some.inj (Option.some.inj q2))
        rw [sset n1] at q1
        exact n ⟨j, s, h1, o1, by rw [eb]; exact q1⟩
      · rw [sset n1] at q1
        rw [sset n2] at q2
        exact S.inj j k b s t h1 h2 o1 o2 q1 q2
theorem Ownd.set {p b : Addr} {i : Nat} {s : Sl} (S : ρ.length = σ.length) (h : Ownd (ρ.set i s) (σ.set i (some (.ref p))) b) : b = p ∨ Ownd ρ σ b := by
  obtain ⟨j, t, h1, o1, h2⟩ := h
  rcases getset h1 with ⟨e1, l1, rfl⟩ | ⟨n1, h1⟩
  · rw [e1, List.getElem?_set_self (by rw [← S]; exact l1)] at h2
    exact .inl (V.ref.inj (Option.some.inj (Option.some.inj h2))).symm
  · rw [sset n1] at h2
    exact .inr ⟨j, t, h1, o1, h2⟩
/-- what comes of an own-capable expression, stored -/
theorem SE.setR {ρ0 : Env} {σ0 : St} {G0 H0 : Hp} (S : SE K π ρ G σ H) {r : Sl} {w : V} (q : RR K ρ0 σ0 H0 ρ σ G H r w) (e : Ext ρ0 σ0 G0 H0 ρ σ G H) (i : Nat) : SE K π (ρ.set i r) G (σ.set i (some w)) H ∧ Ext ρ0 σ0 G0 H0 (ρ.set i r) (σ.set i (some w)) G H := by
  cases r with
  | v d =>
    obtain ⟨S1, e1⟩ := S.set (d := d) q i
    exact ⟨S1, e.trans e1⟩
  | o d =>
    obtain ⟨p, rfl, h1, h2, h3, h4⟩ := q
    refine ⟨S.setO h1 h2 h3 i, fun b o hb n => ?_⟩
    obtain ⟨a, b', g⟩ := e b o hb n
    refine ⟨a, fun z => ?_, g⟩
    rcases Ownd.set S.len z with z | z
    · subst z
      rcases h4 with z | z
      · rw [hb] at z; cases z
      · exact n z
    · exact b' z
  | un => exact False.elim q
  | io _ _ => exact False.elim q
end

section
variable {X : Cx} {c : Lv} {a b e : Expr} {es : List Expr} {f h l : Ev} {r : Ea} {pos p apos : Pos} {x : Str} {st : Stmt} {sts : List Stmt} {A B : Es}
theorem PSs_imp {t t' : TS} (h : PSs X sts t) (m : ∀ D σ H, t' D σ H → t D σ H) : PSs X sts t' := ⟨fun pins s σ H D I hw => h.run pins s σ H D I (m D σ H hw)⟩
theorem rss_nil : PSs X [] (tS X.K c sNx) := PSs_imp pss_nil fun D σ H q => by
  obtain ⟨π, ρ, G, S, k⟩ := q
  exact k σ G H (Same.refl _) Ext.refl S
theorem rss_cons (ha : PS X st (tS X.K c A)) (hb : PSs X sts (tS X.K c B)) : PSs X (st :: sts) (tS X.K c (sSq A B)) := PSs_imp (pss_cons ha hb) fun D σ H q => by
  obtain ⟨π, ρ, G, S, k⟩ := q
  refine ⟨π, ρ, G, S, ?_⟩
  unfold sSq at k
  cases z : A ρ with
  | ok fl ρ' =>
    rw [z] at k
    cases fl with
    | nx => exact fun σ' G' H' s' e' S' => ⟨π, ρ', G', S', PoS.step s' e' k⟩
    | brk => exact k
    | cnt => exact k
    | ret r => exact k
  | rz x ρ' => rw [z] at k; exact k
  | st => rw [z] at k; exact k
theorem rss_one (ha : PS X st (tS X.K c A)) : PSs X [st] (tS X.K c A) := pss_one ha
theorem rs_pass : PS X (.Pass pos) (tS X.K c sNx) := PS_imp ps_pass fun D σ H q => by
  obtain ⟨π, ρ, G, S, k⟩ := q
  exact k σ G H (Same.refl _) Ext.refl S
theorem rs_break : PS X (.Break pos) (tS X.K c sBrk) := PS_imp ps_break fun D σ H q => by
  obtain ⟨π, ρ, G, S, k⟩ := q
  exact k σ G H (Same.refl _) Ext.refl S
theorem rs_cont : PS X (.Continue pos) (tS X.K c sCnt) := PS_imp ps_continue fun D σ H q => by
  obtain ⟨π, ρ, G, S, k⟩ := q
  exact k σ G H (Same.refl _) Ext.refl S
theorem rs_never : PS X st (tS X.K c sSt) := PS_imp ps_never fun D σ H q => by
  obtain ⟨π, ρ, G, S, k⟩ := q
  exact k
theorem rs_set (i : Nat) {pos' : Pos} (hN : X.N.Nodup) (hi : X.N[i]? = some x) (hx : Loc X.env.scope x) (he : PE X e (tE X.K c f)) (hs : swapsWith e (some (.Name x pos')) pos.line X.env = pure false := by rfl) (hf : X.fn x = true ∨ X.env.scope.names.lookup x = some .local := by first | exact .inl rfl | exact .inr rfl | assumption) :
    PS X (.Assign [.Name x pos'] e pos) (tS X.K c (sSet i f)) := PS_imp (ps_set hN hi hx he hs hf) fun D σ H q => by
  obtain ⟨π, ρ, G, S, k⟩ := q
  refine ⟨π, ρ, G, S, (PoS.bind k).mono fun d1 ρ1 G1 H1 _ _ S1 k1 w1 r1 => ?_⟩
  obtain ⟨S2, e2⟩ := S1.set r1 i
  exact k1 _ G1 H1 (Same.refl _) e2 S2
/-- a list that stays the def's own -/
theorem rs_own (i : Nat) {f : Eo} {pos' : Pos} (hN : X.N.Nodup) (hi : X.N[i]? = some x) (hx : Loc X.env.scope x) (he : PE X e (tO X.K c f)) (hs : swapsWith e (some (.Name x pos')) pos.line X.env = pure false := by rfl) (hf : X.fn x = true ∨ X.env.scope.names.lookup x = some .local := by first | exact .inl rfl | exact .inr rfl | assumption) :
    PS X (.Assign [.Name x pos'] e pos) (tS X.K c (sOwn i f)) := PS_imp (ps_set hN hi hx he hs hf) fun D σ H q => by
  obtain ⟨π, ρ, G, S, k⟩ := q
  refine ⟨π, ρ, G, S, ?_⟩
  unfold sOwn at k
  cases z : f ρ with
  | ok r ρ' =>
    rw [z] at k
    intro G' H' s' e' S' w rr
    obtain ⟨S2, e2⟩ := S'.setR rr e' i
    exact k _ G' H' s' e2 S2
  | rz x ρ' => rw [z] at k; exact fun cls d G' H' s' e' S' z => k cls d σ G' H' s' e' S' z
  | st => rw [z] at k; exact k
theorem rs_ret (he : PE X e (tE X.K c f)) : PS X (.Return (some e) pos) (tS X.K c (sRet f)) := PS_imp (ps_ret he) fun D σ H q => by
  obtain ⟨π, ρ, G, S, k⟩ := q
  refine ⟨π, ρ, G, S, (PoS.bind k).mono fun d1 ρ1 G1 H1 _ _ S1 k1 w1 r1 => ?_⟩
  exact k1 w1 σ G1 H1 (Same.refl _) Ext.refl S1 r1
theorem rs_retO {f : Eo} (he : PE X e (tO X.K c f)) : PS X (.Return (some e) pos) (tS X.K c (sRetO f)) := PS_imp (ps_ret he) fun D σ H q => by
  obtain ⟨π, ρ, G, S, k⟩ := q
  refine ⟨π, ρ, G, S, ?_⟩
  unfold sRetO at k
  cases z : f ρ with
  | ok r ρ' =>
    rw [z] at k
    exact fun G' H' s' e' S' w rr => k w σ G' H' s' e' S' rr
  | rz x ρ' => rw [z] at k; exact fun cls d G' H' s' e' S' z => k cls d σ G' H' s' e' S' z
  | st => rw [z] at k; exact k
/-- return x, x the def's own -/
theorem rs_retN (i : Nat) (hN : X.N[i]? = some x) (hv : Vis X.env.scope x) (hd : (x == ("__debug__" : Str)) = false := by decide) (hcd : (x == ("__classdict__" : Str)) = false := by decide) : PS X (.Return (some (.Name x p)) pos) (tS X.K c (sRetN i)) := PS_imp (ps_ret (pe_var hN hv hd hcd)) fun D σ H q => by
  obtain ⟨π, ρ, G, S, k⟩ := q
  unfold sRetN at k
  cases e : ρ[i]? with
  | none => rw [e] at k; exact False.elim k
  | some s =>
    rw [e] at k
    cases s with
    | v d =>
      obtain ⟨w, e1, r1⟩ := S.val e
      exact ⟨w, e1, k w σ G H (Same.refl _) Ext.refl S r1⟩
    | o d =>
      obtain ⟨q, e1, g1, o1⟩ := S.ok i _ e
      obtain ⟨S2, e2⟩ := S.kill i
      refine ⟨.ref q, e1, k _ σ G H (Same.refl _) e2 S2 ⟨q, rfl, g1, o1, fun ⟨j, t, h1, h2, h3⟩ => ?_, .inr ⟨i, _, e, rfl, e1⟩⟩⟩
      rcases getset h1 with ⟨_, _, rfl⟩ | ⟨nj, h1⟩
      · cases h2
      · exact nj (S.inj j i q t _ h1 e h2 rfl h3 e1)
    | _ => exact False.elim k
theorem rs_drop (he : PE X e (tE X.K c f)) (hs : swapsWith e none pos.line X.env = pure false := by rfl) : PS X (.Expr e pos) (tS X.K c (sDrop f)) := PS_imp (ps_expr he hs) fun D σ H q => by
  obtain ⟨π, ρ, G, S, k⟩ := q
  refine ⟨π, ρ, G, S, (PoS.bind k).mono fun d1 ρ1 G1 H1 _ _ S1 k1 w1 r1 => ?_⟩
  exact k1 σ G1 H1 (Same.refl _) Ext.refl S1
theorem rs_if {sa sb : List Stmt} (hc : PT X e (tT X.K c f)) (ha : PSs X sa (tS X.K c A)) (hb : PSs X sb (tS X.K c B)) : PS X (.If e sa sb pos) (tS X.K c (sIf f A B)) := PS_imp (ps_if hc ha hb) fun D σ H q => by
  obtain ⟨π, ρ, G, S, k⟩ := q
  refine ⟨π, ρ, G, S, (PoS.bind k).mono fun d1 ρ1 G1 H1 _ _ S1 k1 => ?_⟩
  cases d1 with
  | bl z =>
    refine ⟨z, rfl, ?_⟩
    cases z with
    | true => exact iteT ⟨π, ρ1, G1, S1, k1⟩
    | false => exact iteF ⟨π, ρ1, G1, S1, k1⟩
  | _ => exact False.elim k1
/-- x op= e, x a value -/
theorem rs_aug (i : Nat) {pos' : Pos} {op : Operator} {g : D → D → Option D} (hN : X.N.Nodup) (hi : X.N[i]? = some x) (hx : Loc X.env.scope x) (ho : OpD X (inplaceOp op) g) (he : PE X e (tE X.K c f)) (hf : X.fn x = true ∨ X.env.scope.names.lookup x = some .local := by first | exact .inl rfl | exact .inr rfl | assumption) :
    PS X (.AugAssign (.Name x pos') op e pos) (tS X.K c (sAug i g f)) := by
  have hp : PIp X op (rU2 X (inplaceOp op)) := fun pins s σ H x y v u Q I rx ry hh => hh pins s σ v u I rx ry
  refine PS_imp (ps_aug hN hi hx he hp hf) fun D σ H q => ?_
  obtain ⟨π, ρ, G, S, k⟩ := q
  unfold sAug at k
  cases z : ρ[i]? with
  | none => rw [z] at k; exact False.elim k
  | some s =>
    rw [z] at k
    cases s with
    | v d =>
      obtain ⟨w, e1, r1⟩ := S.val z
      refine ⟨w, e1, π, ρ, G, S, (PoS.bind k).mono fun d2 ρ2 G2 H2 s2 _ S2 k2 w2 r2 => ?_⟩
      have k3 := PoS.bind k2
      cases z2 : g d d2 with
      | none => rw [z2] at k3; exact False.elim k3
      | some d3 =>
        rw [z2] at k3
        refine ho.run S2.sub (r1.mono s2 _) r2 z2 fun w3 G3 H3 g3 r3 => ?_
        obtain ⟨S3, e3⟩ := (S2.grow g3).1.set r3 i
        exact k3.grow S2 g3 _ _ _ (Same.refl _) e3 S3
    | _ => exact False.elim k

/-! ### while -/
theorem rs_while (ks : List Nat) {body : List Stmt} (hp : PassesOwn (model X.prog X.w) X.A X.env X.xe) (hc : PT X e (tT X.K c f)) (hb : PSs X body (tS X.K c A)) : PS X (.While e body [] pos) (tS X.K c (sWhile ks f A)) := PS_imp (ps_while hp hc hb) fun D σ H q => by
  obtain ⟨π, ρ, G, S, k⟩ := q
  obtain ⟨S0, e0⟩ := S.wipe ks
  refine ⟨fun m σ H => ∃ ρ G, SE X.K π ρ G σ H ∧ PoS X.K c π ρ G σ H (whileL ks f A m ρ) D, ⟨fuel, _, G, S0, PoS.step (Same.refl _) e0 k⟩, ?_⟩
  rintro m σ H ⟨ρ, G, S, k⟩
  cases m with
  | zero => exact False.elim k
  | succ n =>
    refine ⟨π, ρ, G, S, (PoS.bind k).mono fun d1 ρ1 G1 H1 _ _ S1 k1 => ?_⟩
    cases d1 with
    | bl z =>
      refine ⟨z, rfl, ?_⟩
      cases z with
      | true =>
        refine iteT ⟨_, fun σ' H' hw => ⟨n, Nat.lt_succ_self n, hw⟩, π, ρ1, G1, S1, ?_⟩
        cases y : A ρ1 with
        | ok fl ρ2 =>
          simp only [y] at k1
          cases fl with
          | nx =>
            intro σ' G' H' s' e' S'
            obtain ⟨S3, e3⟩ := S'.wipe ks
            exact ⟨_, G', S3, PoS.step s' (e'.trans e3) k1⟩
          | cnt =>
            intro σ' G' H' s' e' S'
            obtain ⟨S3, e3⟩ := S'.wipe ks
            exact ⟨_, G', S3, PoS.step s' (e'.trans e3) k1⟩
          | brk =>
            intro σ' G' H' s' e' S'
            obtain ⟨S3, e3⟩ := S'.wipe ks
            exact k1 σ' G' H' s' (e'.trans e3) S3
          | ret r => exact k1
        | rz x ρ2 => simp only [y] at k1; exact k1
        | st => simp only [y] at k1; exact False.elim k1
      | false => exact iteF (k1 σ G1 H1 (Same.refl _) Ext.refl S1)
    | _ => exact False.elim k1

/-! ### targets -/
def Tg.slots : Tg → List Nat
  | .n i => [i]
  | .t is => is
/-- what a target's store is to reach -/
def rG (K : PySem.W.Frag) (g : Tg) : TG := fun v σ H Q => ∃ π ρ G d ρ', SE K π ρ G σ H ∧ Rep K G v d ∧ g.put d ρ = some ρ' ∧ ∀ σ', Ext ρ σ G H ρ' σ' G H → SE K π ρ' G σ' H → (∀ vs, (∀ i ∈ g.slots, i ∈ vs) → L2.wipe σ' vs = L2.wipe σ vs) → Q σ' H
theorem wipe_set {σ : St} {i : Nat} {w : Option V} : ∀ {vs : List Nat}, i ∈ vs → L2.wipe (σ.set i w) vs = L2.wipe σ vs
  | [], h => by cases h
  | v :: vs, h => by
    unfold L2.wipe
    by_cases e : v = i
    · subst e
      by_cases hm : v ∈ vs
      · rw [wipe_set hm]
      · have : ∀ us : List Nat, v ∉ us → (L2.wipe (σ.set v w) us) = (L2.wipe σ us).set v w := by
          intro us
          induction us with
          | nil => intro _; rfl
          | cons u us ih =>
            intro hu
            unfold L2.wipe
            rw [ih fun z => hu (List.mem_cons_of_mem _ z)]
            rw [List.set_comm _ _ (fun z => hu (by rw [z]; exact List.mem_cons_self))]
        rw [this vs hm, List.set_set]
    · rcases List.mem_cons.mp h with z | z
      · exact absurd z.symm e
      · rw [wipe_set z]
theorem PG_imp {t t' : TG} (h : PG X e t) (m : ∀ v σ H Q, t' v σ H Q → t v σ H Q) : PG X e t' := ⟨fun pins s σ H v u Q I r hw => h.run pins s σ H v u Q I r (m v σ H Q hw)⟩
theorem rg_name (i : Nat) (hN : X.N.Nodup) (hi : X.N[i]? = some x) (hx : Loc X.env.scope x) (hf : X.fn x = true ∨ X.env.scope.names.lookup x = some .local := by first | exact .inl rfl | exact .inr rfl | assumption) : PG X (.Name x pos) (rG X.K (.n i)) :=
  PG_imp (pg_name hN hi hx hf) fun v σ H Q q => by
    obtain ⟨π, ρ, G, d, ρ', S, r, e, k⟩ := q
    obtain rfl := Option.some.inj e
    obtain ⟨S2, e2⟩ := S.set r i
    exact k _ e2 S2 fun vs hv => wipe_set (hv i (List.mem_singleton.mpr rfl))
def rGs (K : PySem.W.Frag) (is : List Nat) : TGs := fun vs σ H Q => ∃ π ρ G ds ρ', SE K π ρ G σ H ∧ Reps K G vs ds ∧ setAll is ds ρ = some ρ' ∧ ∀ σ', Ext ρ σ G H ρ' σ' G H → SE K π ρ' G σ' H → (∀ us, (∀ i ∈ is, i ∈ us) → L2.wipe σ' us = L2.wipe σ us) → Q σ' H
theorem rgs_nil : PGs X [] (rGs X.K []) := ⟨fun pins s σ H vs us Q I r q => pgs_nil.run pins s σ H vs us Q I r (by
  obtain ⟨π, ρ, G, ds, ρ', S, r, e, k⟩ := q
  cases ds with
  | nil =>
    cases r
    obtain rfl := Option.some.inj e
    exact ⟨rfl, k σ Ext.refl S fun _ _ => rfl⟩
  | cons _ _ => cases e)⟩
theorem rgs_cons (i : Nat) {is : List Nat} (hN : X.N.Nodup) (hi : X.N[i]? = some x) (hx : Loc X.env.scope x) (h2 : PGs X es (rGs X.K is)) (hf : X.fn x = true ∨ X.env.scope.names.lookup x = some .local := by first | exact .inl rfl | exact .inr rfl | assumption)
    (hs : (assignEach (.Name x pos :: es) X.env).map (·.2) = assign (.Name x pos) X.env :: (assignEach es X.env).map (·.2) := by rfl) : PGs X (.Name x pos :: es) (rGs X.K (i :: is)) := ⟨fun pins s σ H vs us Q I r q => (pgs_cons (pg_name hN hi hx hf) h2 hs).run pins s σ H vs us Q I r (by
  obtain ⟨π, ρ, G, ds, ρ', S, r, e, k⟩ := q
  cases ds with
  | nil => cases e
  | cons d ds =>
    cases r with
    | cons r1 r2 =>
      obtain ⟨S2, e2⟩ := S.set r1 i
      refine ⟨_, _, rfl, π, _, G, ds, ρ', S2, r2, e, fun σ' e' S' hw => k σ' (e2.trans e') S' fun us hu => ?_⟩
      rw [hw us fun j hj => hu j (List.mem_cons_of_mem _ hj)]
      exact wipe_set (hu i List.mem_cons_self))⟩
theorem rg_tup {k : Nat} {is : List Nat} {n : Nat} (hc : X.calm = true) (h : PGs X es (rGs X.K is)) (hl : is.length = n := by rfl)
    (hn : (assignEach es X.env).length = n := by rfl) (hst : (assignEach es X.env).findIdx? (·.1) = none := by rfl) : PG X (.Tuple es k pos) (rG X.K (.t is)) := ⟨fun pins s σ H v u Q I r q => by
  obtain ⟨π, ρ, G, d, ρ', S, rd, e, kk⟩ := q
  have len : ∀ {is : List Nat} {ds : List D} {ρ ρ' : Env}, setAll is ds ρ = some ρ' → ds.length = is.length := by
    intro is
    induction is with
    | nil => intro ds ρ ρ' e; cases ds with | nil => rfl | cons _ _ => cases e
    | cons i is ih => intro ds ρ ρ' e; cases ds with | nil => cases e | cons d ds => simp [ih e]
  cases rd with
  | tup h1 h2 =>
    refine (pg_tup hc h hn hst).run pins s σ H _ u Q I r ⟨_, _, rfl, Same.tupS S.sub h1, ?_, π, ρ, G, _, ρ', S, h2, e, kk⟩
    rw [h2.length, len e, hl]
  | lst h1 h2 =>
    refine (pg_lst hc h hn hst).run pins s σ H _ u Q I r ⟨_, _, rfl, SqL.of (S.sub _ _ h1), ?_, π, ρ, G, _, ρ', S, h2, e, kk⟩
    rw [h2.length, len e, hl]
  | _ => cases e⟩
/-- targets = e -/
theorem rs_tg {g : Tg} {tg : Expr} (he : PE X e (tE X.K c f)) (hg : PG X tg (rG X.K g)) (hs : swapsWithSole [tg] e pos.line X.env = pure false := by rfl) (hw : swappedStores [tg] e X.env = pure none := by rfl)
    (h1 : (assignEach [tg] X.env).map (·.2) = [assign tg X.env] := by rfl) : PS X (.Assign [tg] e pos) (tS X.K c (sTg g f)) := PS_imp (ps_asg he hg hs hw h1) fun D σ H q => by
  obtain ⟨π, ρ, G, S, k⟩ := q
  refine ⟨π, ρ, G, S, (PoS.bind k).mono fun d1 ρ1 G1 H1 _ _ S1 k1 w1 r1 => ?_⟩
  cases z : g.put d1 ρ1 with
  | none => simp only [z] at k1; exact False.elim k1
  | some ρ2 =>
    simp only [z] at k1
    exact ⟨π, ρ1, G1, d1, ρ2, S1, r1, z, fun σ' e' S' _ => k1 σ' G1 H1 (Same.refl _) e' S'⟩
end
end NV

set_option Elab.async false
set_option linter.all false
set_option maxRecDepth 100000
set_option maxHeartbeats 4000000
/-! Lay8: what is walked; for; comprehensions. -/
namespace NV
open PySem PySem.Spec PyProof.Rows L2
/-- it gives these items, each as it comes, while what was a value stays -/
def ItOk (K : PySem.W.Frag) (J : It) (G : Hp) (items : List D) : Prop :=
  Walk J items.length (fun H => Same G H) fun i H x H' => ∃ d, items[i]? = some d ∧ ∀ Gi, Same G Gi → Same Gi H → ∃ Gi', Grow Gi H Gi' H' ∧ Rep K Gi' x d
def tI (K : PySem.W.Frag) (c : Lv) (it : Ei) : TI := fun σ H R => ∃ π ρ G, SE K π ρ G σ H ∧ Po K c π ρ G σ H (it ρ) fun items _ G' H' => ∀ J, ItOk K J G' items → R J H'
section
variable {K : PySem.W.Frag} {G : Hp}
theorem itok_at {J : It} {items : List D} {xs : List V} {C : Hp → Prop} (r : Reps K G xs items) (w : L2.Walk J xs.length C (YAt xs)) (h : ∀ H, Same G H → C H) : ItOk K J G items := by
  unfold ItOk
  rw [← r.length]
  refine w.mono h fun i H x H' hi g y => ?_
  obtain ⟨e, hx⟩ := y
  subst e
  obtain ⟨d, hd, rd⟩ := r.getV hx
  exact ⟨d, hd, fun Gi s1 s2 => ⟨Gi, Grow.refl s2, rd.mono s1 _⟩⟩
theorem itok_list {a : Addr} {items : List D} {xs : List V} (hq : SqL K G a xs) (r : Reps K G xs items) : ItOk K (Itl K a) G items := itok_at r walk_list fun H s => s.seq hq
theorem itok_tup {a : Addr} {items : List D} {xs : List V} (hq : SqT K G a xs) (r : Reps K G xs items) : ItOk K (Itt K a) G items := itok_at r walk_tup fun H s => Same.tupS s hq
theorem itok_str {s : List Nat} : ItOk K (Its (ofL s)) G (s.map fun c => D.str [c]) := by
  unfold ItOk
  have hl : (s.map fun c => D.str [c]).length = (ofL s).cps.size := by
    rw [List.length_map]
    exact (ofL_len s).symm
  rw [hl]
  refine walk_str.mono (fun _ _ => trivial) fun i H x H' hi g y => ?_
  obtain ⟨e, c, hc, rfl⟩ := y
  subst e
  have : s[i]? = some c := by
    have := hc
    rw [← Array.getElem?_toList, ofL_cps] at this
    exact this
  exact ⟨.str [c], by rw [List.getElem?_map, this]; rfl, fun Gi s1 s2 => ⟨Gi, Grow.refl s2, .str [c]⟩⟩
theorem itok_range {a b : Int} : ItOk K (Itr a (b - a).toNat) G (rng a b) := by
  unfold ItOk
  have hl : (rng a b).length = (b - a).toNat := by unfold rng; simp
  rw [hl]
  refine walk_range.mono (fun _ _ => trivial) fun i H x H' hi g y => ?_
  obtain ⟨e, rfl⟩ := y
  subst e
  refine ⟨.int (a + i), ?_, fun Gi s1 s2 => ⟨Gi, Grow.refl s2, .int _⟩⟩
  unfold rng
  rw [List.getElem?_map, List.getElem?_range hi]
  rfl
theorem itok_rev {a : Addr} {items : List D} {xs : List V} (hq : SqL K G a xs) (r : Reps K G xs items) : ItOk K (Itv K a xs.length) G items.reverse := by
  unfold ItOk
  rw [List.length_reverse, ← r.length]
  refine walk_rev.mono (fun H s => s.seq hq) fun i H x H' hi g y => ?_
  obtain ⟨e, hx⟩ := y
  subst e
  obtain ⟨d, hd, rd⟩ := r.getV hx
  refine ⟨d, ?_, fun Gi s1 s2 => ⟨Gi, Grow.refl s2, rd.mono s1 _⟩⟩
  rw [List.getElem?_reverse (by rw [← r.length]; exact hi), ← r.length]
  exact hd
theorem itok_pair {J : It} {n : Nat} {C : Hp → Prop} {xs ys : Nat → Option V} {items : List D} (hn : items.length = n) (w : L2.Walk J n C (YPair xs ys)) (h : ∀ H, Same G H → C H)
    (hi : ∀ i x y, xs i = some x → ys i = some y → ∃ d e, items[i]? = some (.tup [d, e]) ∧ Rep K G x d ∧ Rep K G y e) : ItOk K J G items := by
  unfold ItOk
  rw [hn]
  refine w.mono h fun i H v H' hi' g y => ?_
  obtain ⟨T, x, z, rfl, nT, rfl, e1, e2⟩ := y
  obtain ⟨d, e, he, rd, re⟩ := hi i x z e1 e2
  refine ⟨_, he, fun Gi s1 s2 => ⟨_, Grow.tr (o := .tup [x, z]) s2 nT, ?_⟩⟩
  have g := Grow.tr (o := .tup [x, z]) s2 nT
  exact .tup (.inl (.inl upd_same)) (.cons ((rd.mono s1 _).mono g.g _) (.cons ((re.mono s1 _).mono g.g _) .nil))
theorem enumL_get : ∀ (ds : List D) (n i : Nat), (enumL n ds)[i]? = (ds[i]?).map fun d => D.tup [.int ((n + i : Nat) : Int), d]
  | [], _, _ => by simp [enumL]
  | d :: ds, n, 0 => by simp [enumL]
  | d :: ds, n, i + 1 => by
    simp only [enumL, List.getElem?_cons_succ]
    rw [enumL_get ds (n + 1) i]
    congr 1
    funext d
    congr 4
    omega
theorem enumL_len : ∀ (ds : List D) (n : Nat), (enumL n ds).length = ds.length
  | [], _ => rfl
  | d :: ds, n => by simp [enumL, enumL_len ds (n + 1)]
theorem itok_enum {a : Addr} {items : List D} {xs : List V} (hq : SqL K G a xs) (r : Reps K G xs items) : ItOk K (Ite K a) G (enumL 0 items) := by
  refine itok_pair (by rw [enumL_len, r.length]) walk_enum (fun H s => s.seq hq) fun i x y e1 e2 => ?_
  obtain ⟨d, hd, rd⟩ := r.getV e2
  cases e1
  exact ⟨.int i, d, by rw [enumL_get, hd]; simp, .int _, rd⟩
theorem itok_zip {a b : Addr} {items jtems : List D} {xs ys : List V} (hq : SqL K G a xs) (r : Reps K G xs items) (hq' : SqL K G b ys) (r' : Reps K G ys jtems) : ItOk K (Itz K a b) G (List.zipWith (fun x y => D.tup [x, y]) items jtems) := by
  refine itok_pair (n := min xs.length ys.length) (by rw [List.length_zipWith, r.length, r'.length]) (walk_zip rfl) (fun H s => ⟨s.seq hq, s.seq hq'⟩) fun i x y e1 e2 => ?_
  obtain ⟨d, hd, rd⟩ := r.getV e1
  obtain ⟨e, he, re⟩ := r'.getV e2
  exact ⟨d, e, by simp [List.getElem?_zipWith, hd, he], rd, re⟩
end
section
variable {X : Cx} {c : Lv} {a b e tg iter : Expr} {es : List Expr} {f h l : Ev} {r : Ea} {pos p apos : Pos} {x : Str} {st : Stmt} {sts : List Stmt} {A B : Es} {it : Ei} {g : Tg}
theorem ri_e (he : PE X e (tE X.K c f)) : PI X tg e (tI X.K c (iE f)) := ⟨fun pins s σ H R I q => by
  obtain ⟨π, ρ, G, S, k⟩ := q
  have k' := Po.bind k
  cases z : f ρ with
  | ok d ρ1 =>
    rw [z] at k'
    cases d with
    | lst ds =>
      refine (pi_list he).run pins s σ H R I ⟨π, ρ, G, S, ?_⟩
      rw [z]
      intro G1 H1 s1 e1 S1 w rw'
      cases rw' with
      | lst h1 h2 => exact ⟨_, rfl, ⟨_, SqL.of (S1.sub _ _ h1)⟩, (k' G1 H1 s1 e1 S1).now S1 _ (itok_list (SqL.of h1) h2)⟩
    | scr ds =>
      refine (pi_list he).run pins s σ H R I ⟨π, ρ, G, S, ?_⟩
      rw [z]
      intro G1 H1 s1 e1 S1 w rw'
      cases rw' with
      | scr h1 h2 => exact ⟨_, rfl, ⟨_, S1.sub.seq h1⟩, (k' G1 H1 s1 e1 S1).now S1 _ (itok_list h1 h2)⟩
    | tup ds =>
      refine (pi_tup he).run pins s σ H R I ⟨π, ρ, G, S, ?_⟩
      rw [z]
      intro G1 H1 s1 e1 S1 w rw'
      cases rw' with
      | tup h1 h2 => exact ⟨_, rfl, ⟨_, Same.tupS S1.sub h1⟩, (k' G1 H1 s1 e1 S1).now S1 _ (itok_tup h1 h2)⟩
    | str z' =>
      refine (pi_str he).run pins s σ H R I ⟨π, ρ, G, S, ?_⟩
      rw [z]
      intro G1 H1 s1 e1 S1 w rw'
      cases rw'
      exact ⟨_, rfl, (k' G1 H1 s1 e1 S1).now S1 _ itok_str⟩
    | _ =>
      refine (pi_list he).run pins s σ H R I ⟨π, ρ, G, S, ?_⟩
      rw [z]
      exact fun G1 H1 s1 e1 S1 _ _ => False.elim (k' G1 H1 s1 e1 S1)
  | rz x ρ1 =>
    rw [z] at k'
    refine (pi_list he).run pins s σ H R I ⟨π, ρ, G, S, ?_⟩
    rw [z]
    exact k'
  | st => rw [z] at k'; exact False.elim k'⟩
theorem ri_r1 (hg : Gl X "range") (hm : X.mg "range" = none) (ha : PE X a (tE X.K c f)) (hs : starEach [a] X.env = [(false, eval a X.env)] := by rfl) : PI X tg (.Call (.Name "range" p) [a] [] pos) (tI X.K c (iR1 f)) := ⟨fun pins s σ H R I q => by
  obtain ⟨π, ρ, G, S, k⟩ := q
  refine (pi_range1 hg hm (pa_cons ha pa_nil hs) hs).run pins s σ H R I ⟨π, ρ, G, S, (Po.bind k).mono fun d1 ρ1 G1 H1 _ _ S1 k1 w1 r1 => ?_⟩
  cases d1 with
  | int j =>
    obtain rfl := r1.int_iff
    simp only at k1
    split at k1
    · rename_i hb
      unfold inR at hb
      rw [Bool.and_eq_true, decide_eq_true_eq, decide_eq_true_eq] at hb
      refine ⟨j, rfl, by omega, by omega, k1.now S1 _ ?_⟩
      have := itok_range (K := X.K) (G := G1) (a := 0) (b := j)
      rw [Int.sub_zero] at this
      exact this
    · exact False.elim k1
  | _ => exact False.elim k1⟩
theorem ri_r2 (hg : Gl X "range") (hm : X.mg "range" = none) (ha : PE X a (tE X.K c f)) (hb : PE X b (tE X.K c h)) (hs : starEach [a, b] X.env = [(false, eval a X.env), (false, eval b X.env)] := by rfl) (hs2 : starEach [b] X.env = [(false, eval b X.env)] := by rfl) : PI X tg (.Call (.Name "range" p) [a, b] [] pos) (tI X.K c (iR2 f h)) := ⟨fun pins s σ H R I q => by
  obtain ⟨π, ρ, G, S, k⟩ := q
  refine (pi_range2 hg hm (pa_cons ha (pa_cons hb pa_nil hs2) (by rw [hs, hs2])) hs hs2).run pins s σ H R I ⟨π, ρ, G, S, (Po.bind k).mono fun d1 ρ1 G1 H1 _ _ S1 k1 w1 r1 => ⟨π, ρ1, G1, S1, (Po.bind k1).mono fun d2 ρ2 G2 H2 s2 _ S2 k2 w2 r2 => ?_⟩⟩
  cases d1 <;> cases d2 <;> first | exact False.elim k2 | skip
  rename_i i j
  obtain rfl := r1.int_iff
  obtain rfl := r2.int_iff
  simp only at k2
  split at k2
  · rename_i hb
    unfold inR at hb
    rw [Bool.and_eq_true, Bool.and_eq_true, Bool.and_eq_true, decide_eq_true_eq, decide_eq_true_eq, decide_eq_true_eq, decide_eq_true_eq] at hb
    exact ⟨i, j, rfl, ⟨by omega, by omega, by omega, by omega⟩, k2.now S2 _ itok_range⟩
  · exact False.elim k2⟩
theorem ri_zip {elts : List Expr} {kk : Nat} {tpos : Pos} (hg : Gl X "zip") (hm : X.mg "zip" = none) (ha : PE X a (tE X.K c f)) (hb : PE X b (tE X.K c h)) (hs : starEach [a, b] X.env = (false, eval a X.env) :: starEach [b] X.env := by rfl) (hs2 : starEach [b] X.env = (false, eval b X.env) :: starEach [] X.env := by rfl) (hpl : (backTo pos (starEach [b] X.env)).any (·.1) = false := by rfl) :
    PI X (.Tuple elts kk tpos) (.Call (.Name "zip" p) [a, b] [] pos) (tI X.K c (iZip f h)) := ⟨fun pins s σ H R I q => by
  obtain ⟨π, ρ, G, S, k⟩ := q
  refine (pi_zip hg hm (pa_cons ha (pa_cons hb pa_nil hs2) hs) hs hpl).run pins s σ H R I ⟨π, ρ, G, S, (Po.bind k).mono fun d1 ρ1 G1 H1 _ _ S1 k1 w1 r1 => ⟨π, ρ1, G1, S1, (Po.bind k1).mono fun d2 ρ2 G2 H2 s2 _ S2 k2 w2 r2 => ?_⟩⟩
  cases d1 <;> cases d2 <;> first | exact False.elim k2 | skip
  cases r1 with
  | lst h1 h2 =>
    cases r2 with
    | lst h3 h4 => exact ⟨_, _, _, _, rfl, SqL.of (S2.sub _ _ (s2 _ _ h1)), SqL.of (S2.sub _ _ h3), k2.now S2 _ (itok_zip (SqL.of (s2 _ _ h1)) (Reps.mono s2 _ _ h2) (SqL.of h3) h4)⟩⟩
theorem ri_enum {elts : List Expr} {kk : Nat} {tpos : Pos} (hg : Gl X "enumerate") (hm : X.mg "enumerate" = none) (ha : PE X a (tE X.K c f)) (hs : starEach [a] X.env = [(false, eval a X.env)] := by rfl) : PI X (.Tuple elts kk tpos) (.Call (.Name "enumerate" p) [a] [] pos) (tI X.K c (iEnum f)) := ⟨fun pins s σ H R I q => by
  obtain ⟨π, ρ, G, S, k⟩ := q
  refine (pi_enum hg hm (pa_cons ha pa_nil hs) hs).run pins s σ H R I ⟨π, ρ, G, S, (Po.bind k).mono fun d1 ρ1 G1 H1 _ _ S1 k1 w1 r1 => ?_⟩
  cases d1 <;> first | exact False.elim k1 | skip
  cases r1 with
  | lst h1 h2 => exact ⟨_, _, rfl, SqL.of (S1.sub _ _ h1), k1.now S1 _ (itok_enum (SqL.of h1) h2)⟩⟩
theorem ri_rev (hg : Gl X "reversed") (hm : X.mg "reversed" = none) (ha : PE X a (tE X.K c f)) (hs : starEach [a] X.env = [(false, eval a X.env)] := by rfl) : PI X tg (.Call (.Name "reversed" p) [a] [] pos) (tI X.K c (iRev f)) := ⟨fun pins s σ H R I q => by
  obtain ⟨π, ρ, G, S, k⟩ := q
  refine (pi_reversed hg hm (pa_cons ha pa_nil hs) hs).run pins s σ H R I ⟨π, ρ, G, S, (Po.bind k).mono fun d1 ρ1 G1 H1 _ _ S1 k1 w1 r1 => ?_⟩
  cases d1 <;> first | exact False.elim k1 | skip
  cases r1 with
  | lst h1 h2 => exact ⟨_, _, rfl, SqL.of (S1.sub _ _ h1), k1.now S1 _ (itok_rev (SqL.of h1) h2)⟩⟩
/-! ### for -/
theorem rs_for (ks : List Nat) {body : List Stmt} (hp : PassesOwn (model X.prog X.w) X.A X.env X.xe) (hc : X.calm = true) (hi : PI X tg iter (tI X.K c it)) (hg : PG X tg (rG X.K g)) (hb : PSs X body (tS X.K c A))
    (hs : ∀ x, foldedSetIterable iter X.env x = pure x := by intro _; rfl) : PS X (.For tg iter body [] pos) (tS X.K c (sFor g ks it A)) := PS_imp (ps_for hp hc hi hg hb hs) fun D σ H q => by
  obtain ⟨π, ρ, G, S, k⟩ := q
  refine ⟨π, ρ, G, S, (PoS.bind k).mono fun items ρ1 G1 H1 _ _ S1 k1 J hJ => ?_⟩
  obtain ⟨S2, e2⟩ := S1.wipe ks
  refine for_it hJ (fun i σ H => ∃ ρ G, SE X.K π ρ G σ H ∧ Same G1 G ∧ PoS X.K c π ρ G σ H (forL g ks A (items.drop i) ρ) D) ⟨_, G1, S2, Same.refl _, PoS.step (Same.refl _) e2 (by rw [List.drop_zero]; exact k1)⟩ (fun i σ H _ ⟨ρ, G, S, s, _⟩ => s.trans S.sub) ?_ ?_
  · rintro i x σ H H' hi ⟨ρ, G, S, s, k⟩ ⟨d, hd, hy⟩
    obtain ⟨Gi, gr, rd⟩ := hy G s S.sub
    obtain ⟨S', e'⟩ := S.grow gr
    have hlt : i < items.length := hi
    have ed : items.drop i = d :: items.drop (i + 1) := by
      have : items[i] = d := by
        rw [List.getElem?_eq_getElem hlt] at hd
        exact Option.some.inj hd
      rw [← this]
      exact List.drop_eq_getElem_cons hlt
    rw [ed] at k
    unfold forL at k
    cases z : g.put d ρ with
    | none => rw [z] at k; exact False.elim k
    | some ρ2 =>
      rw [z] at k
      refine ⟨π, ρ, Gi, d, ρ2, S', rd, z, fun σ' e3 S3 _ => ⟨π, ρ2, Gi, S3, ?_⟩⟩
      have k2 := PoS.step gr.g (e'.trans e3) k
      cases y : A ρ2 with
      | ok fl ρ3 =>
        simp only [y] at k2
        cases fl with
        | nx =>
          intro σ4 G4 H4 s4 e4 S4
          obtain ⟨S5, e5⟩ := S4.wipe ks
          exact ⟨_, G4, S5, (s.trans gr.g).trans s4, PoS.step s4 (e4.trans e5) k2⟩
        | cnt =>
          intro σ4 G4 H4 s4 e4 S4
          obtain ⟨S5, e5⟩ := S4.wipe ks
          exact ⟨_, G4, S5, (s.trans gr.g).trans s4, PoS.step s4 (e4.trans e5) k2⟩
        | brk =>
          intro σ4 G4 H4 s4 e4 S4
          obtain ⟨S5, e5⟩ := S4.wipe ks
          exact k2 σ4 G4 H4 s4 (e4.trans e5) S5
        | ret r => exact k2
      | rz x ρ2 => simp only [y] at k2; exact k2
      | st => simp only [y] at k2; exact False.elim k2
  · rintro σ H ⟨ρ, G, S, s, k⟩
    rw [List.drop_length] at k
    exact k σ G H (Same.refl _) Ext.refl S
/-! ### comprehensions -/
theorem getset_n {σ : St} {i j : Nat} : (σ.set i none)[j]? = if j = i ∧ i < σ.length then some none else σ[j]? := by
  by_cases e : j = i
  · subst e
    by_cases hl : j < σ.length
    · rw [List.getElem?_set_self hl, if_pos ⟨rfl, hl⟩]
    · rw [List.getElem?_eq_none (by simpa using hl), if_neg (fun z => hl z.2), List.getElem?_eq_none (by simpa using hl)]
  · rw [List.getElem?_set_ne (Ne.symm e), if_neg (fun z => e z.1)]
theorem SE.killσ {K : PySem.W.Frag} {π : Nat → Addr} {ρ : Env} {G H : Hp} {σ : St} (S : SE K π ρ G σ H) (i : Nat) : SE K π (ρ.set i .un) G (σ.set i none) H ∧ Ext ρ σ G H (ρ.set i .un) (σ.set i none) G H := by
  have key : ∀ {j : Nat} {s : Sl}, (ρ.set i .un)[j]? = some s → s = .un ∨ (ρ[j]? = some s ∧ (σ.set i none)[j]? = σ[j]?) := fun {j s} h => by
    rcases getset h with ⟨_, _, e⟩ | ⟨n, h⟩
    · exact .inl e
    · exact .inr ⟨h, by rw [getset_n, if_neg (fun z => n z.1)]⟩
  refine ⟨⟨S.sub, by rw [List.length_set, List.length_set]; exact S.len, fun j s h => ?_, fun j k b s t h1 h2 o1 o2 q1 q2 => ?_⟩, fun b o h n => ⟨h, fun ⟨j, s, h1, o1, h2⟩ => ?_, fun z => z⟩⟩
  · rcases key h with rfl | ⟨h, e⟩
    · trivial
    · rw [e]; exact S.ok j s h
  · rcases key h1 with rfl | ⟨h1, e1⟩
    · cases o1
    · rcases key h2 with rfl | ⟨h2, e2⟩
      · cases o2
      · rw [e1] at q1; rw [e2] at q2
        exact S.inj j k b s t h1 h2 o1 o2 q1 q2
  · rcases key h1 with rfl | ⟨h1, e1⟩
    · cases o1
    · rw [e1] at h2
      exact n ⟨j, s, h1, o1, h2⟩
theorem SE.wipeσ {K : PySem.W.Frag} {π : Nat → Addr} {ρ : Env} {G H : Hp} {σ : St} (S : SE K π ρ G σ H) : ∀ ws : List Nat, SE K π (wipeE ρ ws) G (L2.wipe σ ws) H ∧ Ext ρ σ G H (wipeE ρ ws) (L2.wipe σ ws) G H
  | [] => ⟨S, Ext.refl⟩
  | i :: r => by
    obtain ⟨S1, e1⟩ := SE.wipeσ S r
    obtain ⟨S2, e2⟩ := S1.killσ i
    exact ⟨S2, e1.trans e2⟩
/-- an object that nobody looks at turns -/
theorem SE.apart {K : PySem.W.Frag} {π : Nat → Addr} {ρ : Env} {G H : Hp} {σ : St} {p : Addr} {o : HO} (S : SE K π ρ G σ H) (g : G p = none) (n : ¬ Ownd ρ σ p) : SE K π ρ G σ (L2.upd H p o) := by
  have keep : ∀ b, b ≠ p → L2.upd H p o b = H b := fun b hb => upd_ne hb
  refine ⟨fun b x hb => ?_, S.len, fun i s hs => ?_, S.inj⟩
  · rw [keep b (fun z => by subst z; rw [g] at hb; cases hb)]
    exact S.sub _ _ hb
  · have k := S.ok i s hs
    cases s with
    | un => trivial
    | v d => exact k
    | o d =>
      obtain ⟨q, e, h1, h2⟩ := k
      exact ⟨q, e, h1, h2.mono (Same.refl _) (keep q fun z => n ⟨i, _, hs, rfl, by rw [← z]; exact e⟩)⟩
    | io j d =>
      obtain ⟨e, h1, h2⟩ := k
      exact ⟨e, h1, h2.mono (Same.refl _) (keep _ fun z => n ⟨i, _, hs, rfl, by rw [← z]; exact e⟩)⟩
theorem wipe_get {σ : St} {j : Nat} : ∀ {ws : List Nat}, j ∉ ws → (L2.wipe σ ws)[j]? = σ[j]?
  | [], _ => rfl
  | i :: r, h => by
    unfold L2.wipe
    rw [getset_n, if_neg (fun z => h (by rw [z.1]; exact List.mem_cons_self)), wipe_get fun z => h (List.mem_cons_of_mem _ z)]
theorem wipeE_get {ρ : Env} {j : Nat} : ∀ {ws : List Nat}, j ∉ ws → (wipeE ρ ws)[j]? = ρ[j]?
  | [], _ => rfl
  | i :: r, h => by
    unfold wipeE
    rw [List.getElem?_set_ne (fun z => h (by rw [z]; exact List.mem_cons_self)), wipeE_get fun z => h (List.mem_cons_of_mem _ z)]
theorem wipeE_len (ρ : Env) : ∀ ws : List Nat, (wipeE ρ ws).length = ρ.length
  | [] => rfl
  | i :: r => by unfold wipeE; rw [List.length_set, wipeE_len ρ r]
theorem unwipe_len (ρ0 ρ : Env) : ∀ ws : List Nat, (unwipe ρ0 ρ ws).length = ρ.length
  | [] => rfl
  | i :: r => by unfold unwipe; rw [List.length_set, unwipe_len ρ0 ρ r]
theorem unwipe_get {ρ0 ρ : Env} {j : Nat} {s : Sl} : ∀ {ws : List Nat}, (unwipe ρ0 ρ ws)[j]? = some s → (j ∉ ws ∧ ρ[j]? = some s) ∨ (j ∈ ws ∧ (s = .un ∨ ∃ d, s = .v d ∧ ρ0[j]? = some (.v d)))
  | [], h => .inl ⟨by simp, h⟩
  | i :: r, h => by
    unfold unwipe at h
    rcases getset h with ⟨e, _, hs⟩ | ⟨n, h⟩
    · refine .inr ⟨by rw [e]; exact List.mem_cons_self, ?_⟩
      rw [e]
      cases q : ρ0[i]? with
      | none => rw [q] at hs; exact .inl hs
      | some t =>
        rw [q] at hs
        cases t with
        | v d => exact .inr ⟨d, hs, rfl⟩
        | _ => exact .inl hs
    · rcases unwipe_get h with ⟨m, h⟩ | ⟨m, h⟩
      · exact .inl ⟨fun z => by rcases List.mem_cons.mp z with z | z; exact n z; exact m z, h⟩
      · exact .inr ⟨List.mem_cons_of_mem _ m, h⟩
/-- behind the block the def's slots stand again -/
theorem SE.unwipe {K : PySem.W.Frag} {π : Nat → Addr} {ρ ρ2 : Env} {G G2 H H2 : Hp} {σ : St} {ws : List Nat} (S : SE K π ρ G σ H) (s : Same G G2) (S2 : SE K π (wipeE ρ2 ws) G2 (L2.wipe σ ws) H2) :
    SE K π (NV.unwipe ρ ρ2 ws) G2 σ H2 ∧ ∀ b, Ownd (NV.unwipe ρ ρ2 ws) σ b → Ownd (wipeE ρ2 ws) (L2.wipe σ ws) b := by
  have own : ∀ {j : Nat} {t : Sl}, (NV.unwipe ρ ρ2 ws)[j]? = some t → t.owned = true → (wipeE ρ2 ws)[j]? = some t ∧ (L2.wipe σ ws)[j]? = σ[j]? := fun {j t} h o => by
    rcases unwipe_get h with ⟨m, h⟩ | ⟨_, rfl | ⟨d, rfl, _⟩⟩
    · exact ⟨by rw [wipeE_get m]; exact h, wipe_get m⟩
    · cases o
    · cases o
  refine ⟨⟨S2.sub, ?_, fun j t h => ?_, fun j k b t u h1 h2 o1 o2 q1 q2 => ?_⟩, fun b ⟨j, t, h1, o1, h2⟩ => ?_⟩
  · have l2 := S2.len
    rw [wipeE_len, L2.wipe_length] at l2
    rw [unwipe_len]
    exact l2
  · rcases unwipe_get h with ⟨m, h⟩ | ⟨_, rfl | ⟨d, rfl, e⟩⟩
    · have := S2.ok j t (by rw [wipeE_get m]; exact h)
      rw [wipe_get m] at this
      exact this
    · trivial
    · obtain ⟨w, e1, r⟩ := S.val e
      exact ⟨w, e1, r.mono s _⟩
  · obtain ⟨a1, b1⟩ := own h1 o1
    obtain ⟨a2, b2⟩ := own h2 o2
    exact S2.inj j k b t u a1 a2 o1 o2 (by rw [b1]; exact q1) (by rw [b2]; exact q2)
  · obtain ⟨a1, b1⟩ := own h1 o1
    exact ⟨j, t, a1, o1, by rw [b1]; exact h2⟩
/-- the block's own level: nothing leaves it -/
def Lv.in (c : Lv) : Lv := ⟨c.Z, fun _ _ _ _ => False⟩
def rT (K : PySem.W.Frag) (c : Lv) : Option Ev → TT
  | none => tYes
  | some f => tT K c f
theorem wipe_wipe (σ : St) : ∀ ws : List Nat, L2.wipe (L2.wipe σ ws) ws = L2.wipe σ ws := fun ws => by
  refine List.ext_getElem? fun j => ?_
  by_cases h : j ∈ ws
  · have : ∀ (τ : St), (L2.wipe τ ws)[j]? = if j < τ.length then some none else none := fun τ => by
      by_cases hl : j < τ.length
      · rw [if_pos hl]
        induction ws with
        | nil => cases h
        | cons i r ih =>
          unfold L2.wipe
          rw [getset_n]
          by_cases e : j = i
          · rw [if_pos ⟨e, by rw [L2.wipe_length, ← e]; exact hl⟩]
          · rw [if_neg (fun z => e z.1)]
            rcases List.mem_cons.mp h with z | z
            · exact absurd z e
            · exact ih z
      · rw [if_neg hl, List.getElem?_eq_none (by rw [L2.wipe_length]; omega)]
    rw [this, this, L2.wipe_length]
  · rw [wipe_get h]
/-- what a comprehension's reading asks -/
theorem t_comp {g : Tg} {ws : List Nat} {cnd : Option Ev} {f : Ev} {σ : St} {H : Hp} {Q : VK} (hg : ∀ i ∈ g.slots, i ∈ ws)
    (q : ∃ π ρ G, SE X.K π ρ G σ H ∧ Po X.K c π ρ G σ H (it ρ) fun xs ρ1 G1 H1 => ∃ ds ρ2, compL g ws cnd f xs [] ρ1 = .ok ds ρ2 ∧
      ∀ (G2 H2 : Hp) (Dd : Addr) (vs : List V), Same G1 G2 → Ext ρ1 σ G1 H1 (NV.unwipe ρ1 ρ2 ws) σ G2 H2 → SE X.K π (NV.unwipe ρ1 ρ2 ws) G2 σ H2 → H2 Dd = some (.lst vs) → Reps X.K G2 vs ds → G2 Dd = none → ¬ Ownd (NV.unwipe ρ1 ρ2 ws) σ Dd → H1 Dd = none → Q (.ref Dd) H2) :
    tLc (tI X.K c it) (rG X.K g) (rT X.K c.in cnd) (tE X.K c.in f) ws σ H Q := by
  obtain ⟨π, ρ, G, S, k⟩ := q
  refine ⟨π, ρ, G, S, k.mono fun xs ρ1 G1 H1 s1 e1 S1 k1 J hJ Dd hD => ?_⟩
  obtain ⟨ds, ρ2, hrun, k1⟩ := k1
  have gD : G1 Dd = none := by
    cases z : G1 Dd with
    | none => rfl
    | some o => rw [S1.sub _ _ z] at hD; cases hD
  have oD : ¬ Ownd ρ1 σ Dd := fun z => by
    obtain ⟨_, o, h2⟩ := S1.own z
    rw [hD] at h2; cases h2
  obtain ⟨Sw, ew⟩ := S1.wipeσ ws
  have oDw : ¬ Ownd (wipeE ρ1 ws) (L2.wipe σ ws) Dd := fun z => by
    obtain ⟨_, o, h2⟩ := Sw.own z
    rw [hD] at h2; cases h2
  -- the invariant
  refine lc_it hJ (fun i H => ∃ (ρ : Env) (G : Hp) (acc : List D) (av : List V), SE X.K π (wipeE ρ ws) G (L2.wipe σ ws) H ∧ Same G1 G ∧ Ext (wipeE ρ1 ws) (L2.wipe σ ws) G1 H1 (wipeE ρ ws) (L2.wipe σ ws) G H ∧ H Dd = some (.lst av) ∧ Reps X.K G av acc ∧ G Dd = none ∧ ¬ Ownd (wipeE ρ ws) (L2.wipe σ ws) Dd ∧ compL g ws cnd f (xs.drop i) acc ρ = .ok ds ρ2) ?_ ?_ ?_ ?_
  · refine ⟨ρ1, G1, [], [], Sw.apart gD oDw, Same.refl _, fun b o hb n => ⟨?_, n, fun z => z⟩, upd_same, .nil, gD, oDw, by rw [List.drop_zero]; exact hrun⟩
    rw [upd_ne (fun z => by subst z; rw [hD] at hb; cases hb)]
    exact hb
  · rintro i H _ ⟨ρ, G, acc, av, S, s, _⟩
    exact s.trans S.sub
  · rintro i x H H' hi ⟨ρ, G, acc, av, S, s, e, hd, ra, gd, od, run⟩ ⟨d, hdx, hy⟩
    obtain ⟨Gi, gr, rd⟩ := hy G s S.sub
    obtain ⟨S', e'⟩ := S.grow gr
    have hlt : i < xs.length := hi
    have ed : xs.drop i = d :: xs.drop (i + 1) := by
      have : xs[i] = d := by
        rw [List.getElem?_eq_getElem hlt] at hdx
        exact Option.some.inj hdx
      rw [← this]
      exact List.drop_eq_getElem_cons hlt
    rw [ed] at run
    unfold compL at run
    cases z : g.put d (wipeE ρ ws) with
    | none => rw [z] at run; cases run
    | some ρ3 =>
      simp only [z] at run
      refine ⟨π, wipeE ρ ws, Gi, d, ρ3, S', rd, z, fun σ' e3 S3 hw => ?_⟩
      have hσ : L2.wipe σ' ws = L2.wipe σ ws := (hw ws hg).trans (wipe_wipe σ ws)
      refine ⟨by rw [hσ], ?_⟩
      -- the element, from any state
      have elem : ∀ {ρ4 : Env} {G4 H4 : Hp}, Same Gi G4 → Ext (wipeE ρ ws) (L2.wipe σ ws) Gi H' ρ4 σ' G4 H4 → SE X.K π ρ4 G4 σ' H4 → ((f ρ4).bind fun d' ρ5 => if acc.length < line then compL g ws cnd f (xs.drop (i + 1)) (acc ++ [d']) ρ5 else .st) = .ok ds ρ2 →
          tE X.K c.in f σ' H4 fun y H5 => ∃ acc', H5 Dd = some (.lst acc') ∧ acc'.length < sizeLine ∧ ∃ (ρ : Env) (G : Hp) (acc : List D) (av : List V), SE X.K π (wipeE ρ ws) G (L2.wipe σ ws) (L2.upd H5 Dd (.lst (acc' ++ [y]))) ∧ Same G1 G ∧ Ext (wipeE ρ1 ws) (L2.wipe σ ws) G1 H1 (wipeE ρ ws) (L2.wipe σ ws) G (L2.upd H5 Dd (.lst (acc' ++ [y]))) ∧ (L2.upd H5 Dd (.lst (acc' ++ [y]))) Dd = some (.lst av) ∧ Reps X.K G av acc ∧ G Dd = none ∧ ¬ Ownd (wipeE ρ ws) (L2.wipe σ ws) Dd ∧ compL g ws cnd f (xs.drop (i + 1)) acc ρ = .ok ds ρ2 := by
        intro ρ4 G4 H4 s4 e4 S4 run
        refine ⟨π, ρ4, G4, S4, ?_⟩
        cases y : f ρ4 with
        | ok d' ρ5 =>
          rw [y] at run
          have run : (if acc.length < line then compL g ws cnd f (xs.drop (i + 1)) (acc ++ [d']) ρ5 else .st) = .ok ds ρ2 := run
          split at run
          · rename_i hl
            intro G5 H5 s5 e5 S5 w r5
            have eAll := (e'.trans e4).trans e5
            obtain ⟨hD5, oD5, gD5⟩ := eAll Dd _ hd od
            obtain ⟨S6, e6⟩ := S5.wipeσ ws
            rw [hσ] at S6 e6
            obtain ⟨_, oD6, _⟩ := e6 Dd _ hD5 oD5
            have sAll := (gr.g.trans s4).trans s5
            have hll : av.length < sizeLine := by rw [ra.length, ← line_eq]; exact hl
            refine ⟨av, hD5, hll, ρ5, G5, acc ++ [d'], av ++ [w], S6.apart (gD5 gd) oD6, s.trans sAll, fun b o hb n => ?_, upd_same, (Reps.mono sAll _ _ ra).append (.cons r5 .nil), gD5 gd, oD6, run⟩
            obtain ⟨a1, a2, a3⟩ := ((e.trans eAll).trans e6) b o hb n
            refine ⟨?_, a2, a3⟩
            rw [upd_ne (fun z => by subst z; rw [hD] at hb; cases hb)]
            exact a1
          · cases run
        | rz x ρ5 => rw [y] at run; cases run
        | st => rw [y] at run; cases run
      cases cnd with
      | none =>
        have key : ∀ {Q : Bool → Hp → Prop}, Q true H' → rT X.K c.in none σ' H' Q := fun q => q
        refine key ?_
        exact iteT (elem (Same.refl _) e3 S3 run)
      | some cf =>
        simp only at run
        refine ⟨π, ρ3, Gi, S3, ?_⟩
        cases y : cf ρ3 with
        | ok bd ρ4 =>
          rw [y] at run
          intro G4 H4 s4 e4 S4
          cases bd with
          | bl kb =>
            refine ⟨kb, rfl, ?_⟩
            cases kb with
            | true =>
              rw [if_pos rfl]
              exact elem s4 (e3.trans e4) S4 run
            | false =>
              rw [if_neg Bool.false_ne_true]
              have eAll := (e'.trans e3).trans e4
              obtain ⟨hD5, oD5, gD5⟩ := eAll Dd _ hd od
              obtain ⟨S6, e6⟩ := S4.wipeσ ws
              rw [hσ] at S6 e6
              obtain ⟨_, oD6, _⟩ := e6 Dd _ hD5 oD5
              have sAll := gr.g.trans s4
              exact ⟨ρ4, G4, acc, av, S6, s.trans sAll, (e.trans eAll).trans e6, hD5, Reps.mono sAll _ _ ra, gD5 gd, oD6, run⟩
          | _ => cases run
        | rz x ρ5 => rw [y] at run; cases run
        | st => rw [y] at run; cases run
  · rintro H ⟨ρ, G, acc, av, S, s, e, hd, ra, gd, od, run⟩
    rw [List.drop_length] at run
    unfold compL at run
    cases run
    obtain ⟨S2, o2⟩ := S1.unwipe s S
    refine k1 G H Dd av s (fun b o hb n => ?_) S2 hd ra gd (fun z => od (o2 Dd z)) hD
    obtain ⟨a1, a2, a3⟩ := (ew.trans e) b o hb n
    exact ⟨a1, fun z => a2 (o2 b z), a3⟩
/-- what eComp leaves of it -/
theorem q_comp {g : Tg} {ws : List Nat} {cnd : Option Ev} {f : Ev} {σ : St} {H : Hp} {Q : VK} {J : D → Env → Hp → Hp → Prop} {π : Nat → Addr} {ρ : Env} {G : Hp} (S : SE X.K π ρ G σ H) (k : Po X.K c π ρ G σ H (eComp g ws it cnd f ρ) J)
    (hJ : ∀ ds (ρ1 ρ2 : Env) (G1 H1 G2 H2 : Hp) (Dd : Addr) (vs : List V), Same G G1 → Ext ρ σ G H ρ1 σ G1 H1 → Same G1 G2 → Ext ρ1 σ G1 H1 ρ2 σ G2 H2 → SE X.K π ρ2 G2 σ H2 → H2 Dd = some (.lst vs) → Reps X.K G2 vs ds → G2 Dd = none → ¬ Ownd ρ2 σ Dd → H1 Dd = none →
      Po X.K c π ρ1 G1 σ H1 (.ok (.lst ds) ρ2) J → Q (.ref Dd) H2) :
    ∃ π ρ G, SE X.K π ρ G σ H ∧ Po X.K c π ρ G σ H (it ρ) fun xs ρ1 G1 H1 => ∃ ds ρ2, compL g ws cnd f xs [] ρ1 = .ok ds ρ2 ∧
      ∀ (G2 H2 : Hp) (Dd : Addr) (vs : List V), Same G1 G2 → Ext ρ1 σ G1 H1 (NV.unwipe ρ1 ρ2 ws) σ G2 H2 → SE X.K π (NV.unwipe ρ1 ρ2 ws) G2 σ H2 → H2 Dd = some (.lst vs) → Reps X.K G2 vs ds → G2 Dd = none → ¬ Ownd (NV.unwipe ρ1 ρ2 ws) σ Dd → H1 Dd = none → Q (.ref Dd) H2 := by
  refine ⟨π, ρ, G, S, (Po.bind k).mono fun xs ρ1 G1 H1 s1 e1 S1 k1 => ?_⟩
  cases z : compL g ws cnd f xs [] ρ1 with
  | ok ds ρ2 =>
    simp only [z] at k1
    exact ⟨ds, ρ2, rfl, fun G2 H2 Dd vs s2 e2 S2 h1 h2 h3 h4 h5 => hJ ds ρ1 _ G1 H1 G2 H2 Dd vs s1 e1 s2 e2 S2 h1 h2 h3 h4 h5 k1⟩
  | rz x ρ2 => simp only [z] at k1; exact False.elim k1
  | st => simp only [z] at k1; exact False.elim k1
/-- the new list as a value -/
theorem t_compE {g : Tg} {ws : List Nat} {cnd : Option Ev} {f : Ev} {σ : St} {H : Hp} {Q : VK} (hg : ∀ i ∈ g.slots, i ∈ ws) (q : tE X.K c (eComp g ws it cnd f) σ H Q) : tLc (tI X.K c it) (rG X.K g) (rT X.K c.in cnd) (tE X.K c.in f) ws σ H Q := by
  obtain ⟨π, ρ, G, S, k⟩ := q
  refine t_comp hg (q_comp S k fun ds ρ1 ρ2 G1 H1 G2 H2 Dd vs _ _ s2 e2 S2 h1 h2 h3 h4 h5 k => ?_)
  -- the list joins the values
  have sG : Same G2 (L2.upd G2 Dd (.lst vs)) := Same.new h3
  have S3 : SE X.K π ρ2 (L2.upd G2 Dd (.lst vs)) σ H2 := by
    refine ⟨fun b o hb => ?_, S2.len, fun i s hs => ?_, S2.inj⟩
    · by_cases hb' : b = Dd
      · subst hb'; rw [upd_same] at hb; rw [h1]; exact hb
      · rw [upd_ne hb'] at hb; exact S2.sub _ _ hb
    · have kk := S2.ok i s hs
      cases s with
      | un => trivial
      | v d => obtain ⟨w, e, r⟩ := kk; exact ⟨w, e, r.mono sG _⟩
      | o d =>
        obtain ⟨p, e, a1, a2⟩ := kk
        exact ⟨p, e, by rw [upd_ne (fun z => h4 ⟨i, _, hs, rfl, by rw [← z]; exact e⟩)]; exact a1, a2.mono sG rfl⟩
      | io j d =>
        obtain ⟨e, a1, a2⟩ := kk
        exact ⟨e, by rw [upd_ne (fun z => h4 ⟨i, _, hs, rfl, by rw [← z]; exact e⟩)]; exact a1, a2.mono sG rfl⟩
  refine k _ H2 (s2.trans sG) (fun b o hb n => ?_) S3 _ (.lst upd_same (Reps.mono sG _ _ h2))
  obtain ⟨a1, a2, a3⟩ := e2 b o hb n
  refine ⟨a1, a2, fun z => ?_⟩
  rw [upd_ne (fun z => by subst z; rw [h5] at hb; cases hb)]
  exact a3 z
theorem re_comp {own : List (Str × Nat)} {cnd : Option Ev} {ifs : List Expr} {scope : Scope} {elt : Expr} (hc : X.calm = true) (hN : X.N.Nodup) (hi : PI X tg iter (tI X.K c it)) (ok : blkC X.N X.env.scope scope own = true)
    (hg : ∀ (s : Shared) (H : Hp) (C : Addr) (cl : List (Str × Addr)) (fp : List Addr), PG (X.blk s H scope (compEnvC scope cl C X.env) fp) tg (rG X.K g)) (ht : ∀ (s : Shared) (H : Hp) (C : Addr) (cl : List (Str × Addr)) (fp : List Addr), PTs (X.blk s H scope (compEnvC scope cl C X.env) fp) ifs (rT X.K c.in cnd))
    (he : ∀ (s : Shared) (H : Hp) (C : Addr) (cl : List (Str × Addr)) (fp : List Addr), PE (X.blk s H scope (compEnvC scope cl C X.env) fp) elt (tE X.K c.in f)) (hgs : ∀ i ∈ g.slots, i ∈ own.map (·.2)) (hs : ∀ x, foldedSetIterable iter X.env x = pure x := by intro _; rfl) :
    PE X (.ListComp elt [⟨tg, iter, ifs, 0⟩] scope pos) (tE X.K c (eComp g (own.map (·.2)) it cnd f)) :=
  PE_imp (pe_lc hc hN hi (blkOk_by ok) hg ht he hs) fun σ H Q q => t_compE hgs q
theorem t_compO {g : Tg} {ws : List Nat} {cnd : Option Ev} {f : Ev} {σ : St} {H : Hp} {Q : VK} (hg : ∀ i ∈ g.slots, i ∈ ws) (q : tO X.K c (oComp g ws it cnd f) σ H Q) : tLc (tI X.K c it) (rG X.K g) (rT X.K c.in cnd) (tE X.K c.in f) ws σ H Q := by
  obtain ⟨π, ρ, G, S, k⟩ := q
  have k' := Po.bind k
  refine t_comp hg (q_comp S k' fun ds ρ1 ρ2 G1 H1 G2 H2 Dd vs s1 e1 s2 e2 S2 h1 h2 h3 h4 h5 k => ?_)
  refine k G2 H2 s2 e2 S2 G2 H2 (Same.refl _) Ext.refl S2 _ ⟨Dd, rfl, h3, ⟨vs, h1, h2⟩, h4, ?_⟩
  cases z : H Dd with
  | none => exact .inl rfl
  | some o =>
    by_cases n : Ownd ρ σ Dd
    · exact .inr n
    · obtain ⟨a, _, _⟩ := e1 Dd o z n
      rw [h5] at a; cases a
theorem ro_comp {own : List (Str × Nat)} {cnd : Option Ev} {ifs : List Expr} {scope : Scope} {elt : Expr} (hc : X.calm = true) (hN : X.N.Nodup) (hi : PI X tg iter (tI X.K c it)) (ok : blkC X.N X.env.scope scope own = true)
    (hg : ∀ (s : Shared) (H : Hp) (C : Addr) (cl : List (Str × Addr)) (fp : List Addr), PG (X.blk s H scope (compEnvC scope cl C X.env) fp) tg (rG X.K g)) (ht : ∀ (s : Shared) (H : Hp) (C : Addr) (cl : List (Str × Addr)) (fp : List Addr), PTs (X.blk s H scope (compEnvC scope cl C X.env) fp) ifs (rT X.K c.in cnd))
    (he : ∀ (s : Shared) (H : Hp) (C : Addr) (cl : List (Str × Addr)) (fp : List Addr), PE (X.blk s H scope (compEnvC scope cl C X.env) fp) elt (tE X.K c.in f)) (hgs : ∀ i ∈ g.slots, i ∈ own.map (·.2)) (hs : ∀ x, foldedSetIterable iter X.env x = pure x := by intro _; rfl) :
    PE X (.ListComp elt [⟨tg, iter, ifs, 0⟩] scope pos) (tO X.K c (oComp g (own.map (·.2)) it cnd f)) :=
  PE_imp (pe_lc hc hN hi (blkOk_by ok) hg ht he hs) fun σ H Q q => t_compO hgs q
/-- name = [..] -/
theorem rs_setC (i : Nat) {y : Str} {py spos : Pos} {own : List (Str × Nat)} {cnd : Option Ev} {ifs : List Expr} {scope : Scope} {elt : Expr} (hc : X.calm = true) (hN : X.N.Nodup) (hy : X.N[i]? = some y) (hyl : X.env.scope.names.lookup y = some .local)
    (hsw : swapsWith (.ListComp elt [⟨tg, iter, ifs, 0⟩] scope pos) (some (.Name y py)) spos.line X.env = pure true) (hi : PI X tg iter (tI X.K c it)) (ok : blkC X.N X.env.scope scope own = true)
    (hg : ∀ (s : Shared) (H : Hp) (C : Addr) (cl : List (Str × Addr)) (fp : List Addr), PG (X.blk s H scope (compEnvC scope cl C X.env) fp) tg (rG X.K g)) (ht : ∀ (s : Shared) (H : Hp) (C : Addr) (cl : List (Str × Addr)) (fp : List Addr), PTs (X.blk s H scope (compEnvC scope cl C X.env) fp) ifs (rT X.K c.in cnd))
    (he : ∀ (s : Shared) (H : Hp) (C : Addr) (cl : List (Str × Addr)) (fp : List Addr), PE (X.blk s H scope (compEnvC scope cl C X.env) fp) elt (tE X.K c.in f)) (hgs : ∀ i ∈ g.slots, i ∈ own.map (·.2)) (hs : ∀ x, foldedSetIterable iter X.env x = pure x := by intro _; rfl) :
    PS X (.Assign [.Name y py] (.ListComp elt [⟨tg, iter, ifs, 0⟩] scope pos) spos) (tS X.K c (sSet i (eComp g (own.map (·.2)) it cnd f))) :=
  PS_imp (ps_setLc hc hN hy hyl hsw hi (blkOk_by ok) hg ht he hs) fun D σ H q => t_compE hgs (by
    obtain ⟨π, ρ, G, S, k⟩ := q
    refine ⟨π, ρ, G, S, (PoS.bind k).mono fun d1 ρ1 G1 H1 _ _ S1 k1 w1 r1 => ?_⟩
    obtain ⟨S2, e2⟩ := S1.set r1 i
    exact k1 _ G1 H1 (Same.refl _) e2 S2)
theorem rs_ownC (i : Nat) {y : Str} {py spos : Pos} {own : List (Str × Nat)} {cnd : Option Ev} {ifs : List Expr} {scope : Scope} {elt : Expr} (hc : X.calm = true) (hN : X.N.Nodup) (hy : X.N[i]? = some y) (hyl : X.env.scope.names.lookup y = some .local)
    (hsw : swapsWith (.ListComp elt [⟨tg, iter, ifs, 0⟩] scope pos) (some (.Name y py)) spos.line X.env = pure true) (hi : PI X tg iter (tI X.K c it)) (ok : blkC X.N X.env.scope scope own = true)
    (hg : ∀ (s : Shared) (H : Hp) (C : Addr) (cl : List (Str × Addr)) (fp : List Addr), PG (X.blk s H scope (compEnvC scope cl C X.env) fp) tg (rG X.K g)) (ht : ∀ (s : Shared) (H : Hp) (C : Addr) (cl : List (Str × Addr)) (fp : List Addr), PTs (X.blk s H scope (compEnvC scope cl C X.env) fp) ifs (rT X.K c.in cnd))
    (he : ∀ (s : Shared) (H : Hp) (C : Addr) (cl : List (Str × Addr)) (fp : List Addr), PE (X.blk s H scope (compEnvC scope cl C X.env) fp) elt (tE X.K c.in f)) (hgs : ∀ i ∈ g.slots, i ∈ own.map (·.2)) (hs : ∀ x, foldedSetIterable iter X.env x = pure x := by intro _; rfl) :
    PS X (.Assign [.Name y py] (.ListComp elt [⟨tg, iter, ifs, 0⟩] scope pos) spos) (tS X.K c (sOwn i (oComp g (own.map (·.2)) it cnd f))) :=
  PS_imp (ps_setLc hc hN hy hyl hsw hi (blkOk_by ok) hg ht he hs) fun D σ H q => t_compO hgs (by
    obtain ⟨π, ρ, G, S, k⟩ := q
    refine ⟨π, ρ, G, S, ?_⟩
    unfold sOwn at k
    cases z : oComp g (own.map (·.2)) it cnd f ρ with
    | ok r ρ' =>
      rw [z] at k
      intro G' H' s' e' S' w rr
      obtain ⟨S2, e2⟩ := S'.setR rr e' i
      exact k _ G' H' s' e2 S2
    | rz x ρ' => rw [z] at k; exact fun cls d G' H' s' e' S' z => k cls d σ G' H' s' e' S' z
    | st => rw [z] at k; exact k)
theorem rts_nil : PTs X [] (rT X.K c none) := pts_nil
theorem rts_one (h : PT X a (tT X.K c f)) : PTs X [a] (rT X.K c (some f)) := pts_one h
end
end NV

set_option Elab.async false
set_option linter.all false
set_option maxRecDepth 100000
set_option maxHeartbeats 4000000
/-! Lay9: own lists and dicts that turn; looking at them. -/
namespace NV
open PySem PySem.Spec PyProof.Rows L2
def Sl.setD : Sl → D → Sl
  | .o _, d => .o d
  | .io k _, d => .io k d
  | s, _ => s
section
variable {K : PySem.W.Frag} {π : Nat → Addr} {ρ ρ1 ρ' : Env} {G G1 G' : Hp} {σ σ1 σ' : St} {H H1 H' : Hp} {c : Lv} {α β : Type}
theorem SE.at_own (S : SE K π ρ G σ H) {i : Nat} {s : Sl} {d : D} (e : ρ[i]? = some s) (hs : s = .o d ∨ ∃ k, s = .io k d) : ∃ p, σ[i]? = some (some (.ref p)) ∧ G p = none ∧ Own K G H p d := by
  have k := S.ok i s e
  rcases hs with rfl | ⟨j, rfl⟩
  · exact k
  · exact ⟨_, k⟩
/-- an own object turned -/
theorem SE.turn (S : SE K π ρ G σ H) {i : Nat} {s : Sl} {d d' : D} {p : Addr} {ob : HO} (e : ρ[i]? = some s) (hs : s = .o d ∨ ∃ k, s = .io k d) (hp : σ[i]? = some (some (.ref p))) (ow : Own K G (L2.upd H p ob) p d') :
    SE K π (ρ.set i (s.setD d')) G σ (L2.upd H p ob) ∧ Ext ρ σ G H (ρ.set i (s.setD d')) σ G (L2.upd H p ob) := by
  have so : s.owned = true := by rcases hs with rfl | ⟨_, rfl⟩ <;> rfl
  have so' : (s.setD d').owned = true := by rcases hs with rfl | ⟨_, rfl⟩ <;> rfl
  obtain ⟨p', hp', gp, _⟩ := S.at_own e hs
  have ep : p' = p := by rw [hp] at hp'; exact (V.ref.inj (Option.some.inj (Option.some.inj hp'))).symm
  subst ep
  have oth : ∀ {j : Nat} {t : Sl} {b : Addr}, j ≠ i → ρ[j]? = some t → t.owned = true → σ[j]? = some (some (.ref b)) → b ≠ p' := fun {j t b} n h o hb z => n (S.inj j i b t s h e o so hb (by rw [z]; exact hp))
  refine ⟨⟨fun b x hb => ?_, by rw [List.length_set]; exact S.len, fun j t h => ?_, fun j k b t u h1 h2 o1 o2 q1 q2 => ?_⟩, fun b x hb n => ?_⟩
  · rw [upd_ne (fun z => by subst z; rw [gp] at hb; cases hb)]
    exact S.sub _ _ hb
  · rcases getset h with ⟨rfl, _, rfl⟩ | ⟨n, h⟩
    · rcases hs with rfl | ⟨k, rfl⟩
      · exact ⟨p', hp, gp, ow⟩
      · have k' := S.ok j _ e
        have e2 : π k = p' := by
          have := k'.1
          rw [hp] at this
          exact (V.ref.inj (Option.some.inj (Option.some.inj this))).symm
        show σ[j]? = some (some (.ref (π k))) ∧ G (π k) = none ∧ Own K G _ (π k) d'
        rw [e2]
        exact ⟨hp, gp, ow⟩
    · have k := S.ok j t h
      cases t with
      | un => trivial
      | v d => exact k
      | o d =>
        obtain ⟨q, e1, g1, o1⟩ := k
        exact ⟨q, e1, g1, o1.mono (Same.refl _) (upd_ne (oth n h rfl e1))⟩
      | io m d =>
        obtain ⟨e1, g1, o1⟩ := k
        exact ⟨e1, g1, o1.mono (Same.refl _) (upd_ne (oth n h rfl e1))⟩
  · have ox : ∀ {j : Nat} {t : Sl}, (ρ.set i (s.setD d'))[j]? = some t → t.owned = true → ∃ t', ρ[j]? = some t' ∧ t'.owned = true := fun {j t} h o => by
      rcases getset h with ⟨rfl, _, rfl⟩ | ⟨_, h⟩
      · exact ⟨s, e, so⟩
      · exact ⟨t, h, o⟩
    obtain ⟨t1, a1, b1⟩ := ox h1 o1
    obtain ⟨t2, a2, b2⟩ := ox h2 o2
    exact S.inj j k b t1 t2 a1 a2 b1 b2 q1 q2
  · have hb' : b ≠ p' := fun z => n ⟨i, s, e, so, by rw [z]; exact hp⟩
    refine ⟨by rw [upd_ne hb']; exact hb, fun ⟨j, t, h1, o1, h2⟩ => ?_, fun z => z⟩
    rcases getset h1 with ⟨rfl, _, rfl⟩ | ⟨m, h1⟩
    · rw [hp] at h2
      exact hb' (V.ref.inj (Option.some.inj (Option.some.inj h2))).symm
    · exact n ⟨j, t, h1, o1, h2⟩
/-- what chg says, taken apart -/
theorem chg_of {i : Nat} {h : D → Option D} {D' : Ends} (S : SE K π ρ G σ H) (k : PoS K c π ρ G σ H (chg i h ρ) D') : ∃ s d d' p, ρ[i]? = some s ∧ (s = .o d ∨ ∃ j, s = .io j d) ∧ h d = some d' ∧ σ[i]? = some (some (.ref p)) ∧ G p = none ∧ Own K G H p d ∧
    ∀ ob, Own K G (L2.upd H p ob) p d' → D'.nx σ (L2.upd H p ob) := by
  unfold chg at k
  cases e : ρ[i]? with
  | none => rw [e] at k; exact False.elim k
  | some s =>
    rw [e] at k
    cases s with
    | o d =>
      simp only at k
      cases z : h d with
      | none => rw [z] at k; exact False.elim k
      | some d' =>
        rw [z] at k
        obtain ⟨p, h1, h2, h3⟩ := S.at_own e (.inl rfl)
        refine ⟨_, d, d', p, rfl, .inl rfl, z, h1, h2, h3, fun ob ow => ?_⟩
        obtain ⟨S2, e2⟩ := S.turn e (.inl rfl) h1 ow
        exact k σ G _ (Same.refl _) e2 S2
    | io j d =>
      simp only at k
      cases z : h d with
      | none => rw [z] at k; exact False.elim k
      | some d' =>
        rw [z] at k
        obtain ⟨p, h1, h2, h3⟩ := S.at_own e (.inr ⟨j, rfl⟩)
        refine ⟨_, d, d', p, rfl, .inr ⟨j, rfl⟩, z, h1, h2, h3, fun ob ow => ?_⟩
        obtain ⟨S2, e2⟩ := S.turn e (.inr ⟨j, rfl⟩) h1 ow
        exact k σ G _ (Same.refl _) e2 S2
    | _ => exact False.elim k
theorem isO_of (S : SE K π ρ G σ H) {i : Nat} (h : isO ρ i = true) : ∃ p xs ws, held ρ i = some (.lst xs) ∧ σ[i]? = some (some (.ref p)) ∧ G p = none ∧ H p = some (.lst ws) ∧ Reps K G ws xs := by
  unfold isO at h
  cases e : ρ[i]? with
  | none => rw [e] at h; cases h
  | some s =>
    rw [e] at h
    cases s with
    | o d =>
      cases d with
      | lst xs =>
        obtain ⟨p, h1, h2, ws, h3, h4⟩ := S.at_own e (.inl rfl)
        exact ⟨p, xs, ws, by unfold held; rw [e], h1, h2, h3, h4⟩
      | _ => cases h
    | io k d =>
      cases d with
      | lst xs =>
        obtain ⟨p, h1, h2, ws, h3, h4⟩ := S.at_own e (.inr ⟨k, rfl⟩)
        exact ⟨p, xs, ws, by unfold held; rw [e], h1, h2, h3, h4⟩
      | _ => cases h
    | _ => cases h
theorem isD_of (S : SE K π ρ G σ H) {i : Nat} (h : isD ρ i = true) : ∃ p es ws, held ρ i = some (.dct es) ∧ σ[i]? = some (some (.ref p)) ∧ G p = none ∧ H p = some (.dK ws) ∧ RepK K G ws es := by
  unfold isD at h
  cases e : ρ[i]? with
  | none => rw [e] at h; cases h
  | some s =>
    rw [e] at h
    cases s with
    | o d =>
      cases d with
      | dct xs =>
        obtain ⟨p, h1, h2, ws, h3, h4⟩ := S.at_own e (.inl rfl)
        exact ⟨p, xs, ws, by unfold held; rw [e], h1, h2, h3, h4⟩
      | _ => cases h
    | io k d =>
      cases d with
      | dct xs =>
        obtain ⟨p, h1, h2, ws, h3, h4⟩ := S.at_own e (.inr ⟨k, rfl⟩)
        exact ⟨p, xs, ws, by unfold held; rw [e], h1, h2, h3, h4⟩
      | _ => cases h
    | _ => cases h
theorem held_of (S : SE K π ρ G σ H) {i : Nat} {d : D} (h : held ρ i = some d) : ∃ p, σ[i]? = some (some (.ref p)) ∧ G p = none ∧ Own K G H p d := by
  unfold held at h
  cases e : ρ[i]? with
  | none => rw [e] at h; cases h
  | some s =>
    rw [e] at h
    cases s with
    | o d' => obtain rfl := Option.some.inj h; exact S.at_own e (.inl rfl)
    | io k d' => obtain rfl := Option.some.inj h; exact S.at_own e (.inr ⟨k, rfl⟩)
    | _ => cases h
/-- own lists given up -/
theorem SE.freeze (S : SE K π ρ G σ H) (P : Nat → Bool) (F : Nat → Sl → Sl) (hF : ∀ i s, F i s = if P i then s.frz else s) {ρ' : Env} (hρ : ∀ i, ρ'[i]? = (ρ[i]?).map (F i)) (hl : ρ'.length = ρ.length) :
    ∃ G', Same G G' ∧ (∀ i s b, ρ[i]? = some s → s.owned = true → P i = true → σ[i]? = some (some (.ref b)) → G' b = H b) ∧ Same G' H ∧ SE K π ρ' G' σ H ∧ Ext ρ σ G H ρ' σ G' H := by
  classical
  let fz : Addr → Prop := fun b => ∃ i s, ρ[i]? = some s ∧ s.owned = true ∧ P i = true ∧ σ[i]? = some (some (.ref b))
  let G' : Hp := fun b => if fz b then H b else G b
  have gz : ∀ b, fz b → G' b = H b := fun b h => if_pos h
  have gn : ∀ b, ¬ fz b → G' b = G b := fun b h => if_neg h
  have fown : ∀ b, fz b → Ownd ρ σ b := fun b ⟨i, s, h1, h2, _, h4⟩ => ⟨i, s, h1, h2, h4⟩
  have sG : Same G G' := fun b o h => by
    rw [gn b fun z => S.notown h (fown b z)]
    exact h
  have sH : Same G' H := fun b o h => by
    by_cases z : fz b
    · rw [gz b z] at h; exact h
    · rw [gn b z] at h; exact S.sub _ _ h
  have back : ∀ {i : Nat} {t : Sl}, ρ'[i]? = some t → ∃ s, ρ[i]? = some s ∧ t = if P i then s.frz else s := fun {i t} h => by
    rw [hρ i] at h
    cases e : ρ[i]? with
    | none => rw [e] at h; cases h
    | some s =>
      rw [e] at h
      exact ⟨s, rfl, by rw [← hF]; exact (Option.some.inj h).symm⟩
  have own' : ∀ {i : Nat} {t : Sl}, ρ'[i]? = some t → t.owned = true → ρ[i]? = some t ∧ P i = false := fun {i t} h o => by
    obtain ⟨s, h1, h2⟩ := back h
    by_cases hp : P i = true
    · rw [if_pos hp] at h2
      subst h2
      cases s <;> cases o
    · rw [if_neg hp] at h2
      subst h2
      exact ⟨h1, by simpa using hp⟩
  have nfz : ∀ {i : Nat} {t : Sl} {b : Addr}, ρ[i]? = some t → t.owned = true → P i = false → σ[i]? = some (some (.ref b)) → ¬ fz b := fun {i t b} h o hp hb ⟨j, s, h1, h2, h3, h4⟩ => by
    have := S.inj i j b t s h h1 o h2 hb h4
    subst this
    rw [hp] at h3; cases h3
  refine ⟨G', sG, fun i s b h o hp hb => gz b ⟨i, s, h, o, hp, hb⟩, sH, ⟨sH, hl.trans S.len, fun i t h => ?_, fun i j b s t h1 h2 o1 o2 q1 q2 => ?_⟩, fun b o hb n => ⟨hb, fun ⟨i, t, h1, o1, h2⟩ => n ⟨i, t, (own' h1 o1).1, o1, h2⟩, fun z => ?_⟩⟩
  · obtain ⟨s, h1, h2⟩ := back h
    have k := S.ok i s h1
    by_cases hp : P i = true
    · rw [if_pos hp] at h2
      subst h2
      have conv : ∀ d p, σ[i]? = some (some (.ref p)) → s.owned = true → Own K G H p d → Rep K G' (.ref p) d := fun d p hq hs ow => by
        have e : G' p = H p := gz p ⟨i, s, h1, hs, hp, hq⟩
        cases d with
        | lst ds => obtain ⟨ws, a1, a2⟩ := ow; exact .lst (by rw [e]; exact a1) (Reps.mono sG _ _ a2)
        | dct ds => obtain ⟨ws, a1, a2⟩ := ow; exact .dct (by rw [e]; exact a1) (RepK.mono sG _ _ a2)
        | _ => exact False.elim ow
      cases s with
      | un => trivial
      | v d => obtain ⟨w, e, r⟩ := k; exact ⟨w, e, r.mono sG _⟩
      | o d => obtain ⟨p, e, _, ow⟩ := k; exact ⟨_, e, conv d p e rfl ow⟩
      | io j d => obtain ⟨e, _, ow⟩ := k; exact ⟨_, e, conv d _ e rfl ow⟩
    · rw [if_neg hp] at h2
      subst h2
      have hp' : P i = false := by simpa using hp
      cases t with
      | un => trivial
      | v d => obtain ⟨w, e, r⟩ := k; exact ⟨w, e, r.mono sG _⟩
      | o d => obtain ⟨p, e, g, ow⟩ := k; exact ⟨p, e, by rw [gn p (nfz h1 rfl hp' e)]; exact g, ow.mono sG rfl⟩
      | io j d => obtain ⟨e, g, ow⟩ := k; exact ⟨e, by rw [gn _ (nfz h1 rfl hp' e)]; exact g, ow.mono sG rfl⟩
  · exact S.inj i j b s t (own' h1 o1).1 (own' h2 o2).1 o1 o2 q1 q2
  · rw [gn b fun q => n (fown b q)]
    exact z
theorem SE.frzAll (S : SE K π ρ G σ H) : ∃ G', Same G G' ∧ (∀ b, Ownd ρ σ b → G' b = H b) ∧ SE K π (ρ.map Sl.frz) G' σ H ∧ Ext ρ σ G H (ρ.map Sl.frz) σ G' H := by
  obtain ⟨G', h1, h2, _, h3, h4⟩ := S.freeze (fun _ => true) (fun _ s => s.frz) (fun i s => by rw [if_pos rfl]) (ρ' := ρ.map Sl.frz) (fun i => by rw [List.getElem?_map]) (by rw [List.length_map])
  exact ⟨G', h1, fun b ⟨i, s, a1, a2, a3⟩ => h2 i s b a1 a2 rfl a3, h3, h4⟩
theorem SE.frz1 (S : SE K π ρ G σ H) (i : Nat) : ∃ G', Same G G' ∧ SE K π (NV.frz1 ρ i) G' σ H ∧ Ext ρ σ G H (NV.frz1 ρ i) σ G' H := by
  by_cases h : ∃ d, ρ[i]? = some (.o d)
  · obtain ⟨d, e⟩ := h
    have hr : NV.frz1 ρ i = ρ.set i (.v d) := by unfold NV.frz1; rw [e]
    obtain ⟨G', h1, _, _, h3, h4⟩ := S.freeze (fun j => decide (j = i)) (fun j s => if j = i then s.frz else s) (fun j s => by simp) (ρ' := NV.frz1 ρ i) (fun j => by
      rw [hr]
      have hl : i < ρ.length := (List.getElem?_eq_some_iff.mp e).1
      by_cases hj : j = i
      · subst hj
        rw [List.getElem?_set_self hl, e]
        simp [Sl.frz]
      · rw [List.getElem?_set_ne (Ne.symm hj)]
        cases ρ[j]? <;> simp [hj]) (by rw [hr, List.length_set])
    exact ⟨G', h1, h3, h4⟩
  · have hr : NV.frz1 ρ i = ρ := by
      unfold NV.frz1
      split
      · rename_i d e; exact absurd ⟨d, e⟩ h
      · rfl
    rw [hr]
    exact ⟨G, Same.refl _, S, Ext.refl⟩
end

section
variable {X : Cx} {c : Lv} {a b e : Expr} {es : List Expr} {f h l : Ev} {r : Ea} {pos p apos cpos : Pos} {x : Str} {i : Nat}
/-- all own lists looked at as values -/
theorem thaw_po {σ : St} {H : Hp} {π : Nat → Addr} {ρ : Env} {G : Hp} {J J' : D → Env → Hp → Hp → Prop} (S : SE X.K π ρ G σ H) (k : Po X.K c π ρ G σ H (eThaw f ρ) J) (hJ : ∀ d G1 G2 ρ2 H2, d.flat = true → J d ρ G1 H2 → J' d ρ2 G2 H2) :
    ∃ π ρ G, SE X.K π ρ G σ H ∧ Po X.K c π ρ G σ H (f ρ) J' := by
  obtain ⟨GF, s1, h2, S1, e1⟩ := S.frzAll
  refine ⟨π, _, GF, S1, ?_⟩
  unfold eThaw at k
  -- behind it the def's slots stand as they stood
  have stand : ∀ {ρ2 : Env} {G2 H2 : Hp}, Same GF G2 → Ext (ρ.map Sl.frz) σ GF H ρ2 σ G2 H2 → SE X.K π ρ2 G2 σ H2 → SE X.K π ρ G σ H2 ∧ Ext ρ σ G H ρ σ G H2 := fun {ρ2 G2 H2} s2 e2 S2 => by
    have hk : ∀ b, Ownd ρ σ b → H2 b = H b := fun b hb => by
      obtain ⟨_, o, ho⟩ := S.own hb
      have : GF b = some o := (h2 b hb).trans ho
      rw [S2.sub _ _ (s2 _ _ this), ho]
    refine ⟨⟨(s1.trans s2).trans S2.sub, S.len, fun j s hs => ?_, S.inj⟩, fun b o hb n => ?_⟩
    · have kk := S.ok j s hs
      cases s with
      | un => trivial
      | v d => exact kk
      | o d => obtain ⟨q, a1, a2, a3⟩ := kk; exact ⟨q, a1, a2, a3.mono (Same.refl _) (hk q ⟨j, _, hs, rfl, a1⟩)⟩
      | io m d => obtain ⟨a1, a2, a3⟩ := kk; exact ⟨a1, a2, a3.mono (Same.refl _) (hk _ ⟨j, _, hs, rfl, a1⟩)⟩
    · obtain ⟨a1, a2, _⟩ := (e1.trans e2) b o hb n
      exact ⟨a1, n, fun z => z⟩
  cases z : f (ρ.map Sl.frz) with
  | ok d ρ2 =>
    rw [z] at k
    simp only at k
    intro G2 H2 s2 e2 S2
    obtain ⟨S3, e3⟩ := stand s2 e2 S2
    split at k
    · rename_i hf
      exact hJ d _ _ _ _ hf (k G H2 (Same.refl _) e3 S3)
    · exact False.elim k
  | rz x ρ2 => rw [z] at k; exact False.elim k
  | st => rw [z] at k; exact False.elim k
theorem re_thaw (h : PE X e (tE X.K c f)) : PE X e (tE X.K c (eThaw f)) := PE_imp h fun _ _ _ q => by
  obtain ⟨π, ρ, G, S, k⟩ := q
  exact thaw_po S k fun d G1 G2 ρ2 H2 hf q w r => q w (r.flat hf _)
theorem rt_thaw (h : PT X e (tT X.K c f)) : PT X e (tT X.K c (eThaw f)) := PT_imp h fun σ H Q q => by
  obtain ⟨π, ρ, G, S, k⟩ := q
  exact thaw_po S k fun d G1 G2 ρ2 H2 hf q => q
theorem re_frz (i : Nat) (h : PE X e (tE X.K c f)) : PE X e (tE X.K c (eFrz i f)) := PE_imp h fun σ H Q q => by
  obtain ⟨π, ρ, G, S, k⟩ := q
  obtain ⟨GF, s1, S1, e1⟩ := S.frz1 i
  exact ⟨π, _, GF, S1, Po.step s1 e1 k⟩
end
end NV

set_option Elab.async false
set_option linter.all false
set_option maxRecDepth 100000
set_option maxHeartbeats 4000000
/-! Lay10: own lists: the rules; calls of defs; a def's promise. -/
namespace NV
open PySem PySem.Spec PyProof.Rows L2
section
variable {X : Cx} {c : Lv} {a b e : Expr} {es : List Expr} {f h l : Ev} {r : Ea} {pos p apos cpos pos' tpos : Pos} {x : Str}
theorem Reps.snoc {K : PySem.W.Frag} {H : Hp} {vs : List V} {ds : List D} {v : V} {d : D} (h : Reps K H vs ds) (r : Rep K H v d) : Reps K H (vs ++ [v]) (ds ++ [d]) := h.append (.cons r .nil)
/-- x[a], x the def's own -/
theorem re_ixO (i : Nat) (hu : X.A.units + 1 < cLine) (hN : X.N[i]? = some x) (hv : Vis X.env.scope x) (hb : PE X b (tE X.K c f)) (hs : PlainIx b := by exact fun _ _ => rfl) (hd : (x == ("__debug__" : Str)) = false := by decide) (hcd : (x == ("__classdict__" : Str)) = false := by decide) :
    PE X (.Subscript (.Name x p) b pos) (tE X.K c (eIxO i f)) := PE_imp (pe_ix ixr_U (pe_var hN hv hd hcd) hb hs) fun σ H Q q => by
  obtain ⟨π, ρ, G, S, k⟩ := q
  unfold eIxO at k
  by_cases hO : isO ρ i = true
  · rw [if_pos hO] at k
    obtain ⟨pa, xs, ws, h1, h2, h3, h4, h5⟩ := isO_of S hO
    refine ⟨.ref pa, h2, π, ρ, G, S, (Po.bind k).mono fun d1 ρ1 G1 H1 _ _ S1 k1 w1 r1 => ?_⟩
    cases z : held ρ1 i with
    | none => simp only [z] at k1; exact False.elim k1
    | some d =>
      cases d with
      | lst ys =>
        simp only [z] at k1
        obtain ⟨p', a1, a2, ws', a3, a4⟩ := held_of S1 z
        have ep : p' = pa := by rw [h2] at a1; exact (V.ref.inj (Option.some.inj (Option.some.inj a1))).symm
        subst ep
        obtain ⟨d', e⟩ := some_of k1
        have fin := fin_of S1 e k1
        cases r1 with
        | int j =>
          obtain ⟨j', e1, e2⟩ := at_len a4.length (show NV.at? _ j = some d' from e)
          obtain ⟨v, e3, r⟩ := a4.get e1
          exact rUI_of ix_list ⟨_, _, j, v, rfl, rfl, SqL.of a3, e2 v e3, fin v G1 H1 (Grow.refl S1.sub) r⟩
        | _ => simp [opIx] at e
      | _ => simp only [z] at k1; exact False.elim k1
  · rw [if_neg hO] at k
    by_cases hD : isD ρ i = true
    · rw [if_pos hD] at k
      obtain ⟨pa, xs, ws, h1, h2, h3, h4, h5⟩ := isD_of S hD
      refine ⟨.ref pa, h2, π, ρ, G, S, (Po.bind k).mono fun d1 ρ1 G1 H1 _ _ S1 k1 w1 r1 => ?_⟩
      cases z : held ρ1 i with
      | none => simp only [z] at k1; exact False.elim k1
      | some d =>
        cases d with
        | dct ys =>
          simp only [z] at k1
          obtain ⟨p', a1, a2, ws', a3, a4⟩ := held_of S1 z
          have ep : p' = pa := by rw [h2] at a1; exact (V.ref.inj (Option.some.inj (Option.some.inj a1))).symm
          subst ep
          obtain ⟨d', e⟩ := some_of k1
          have fin := fin_of S1 e k1
          cases r1 with
          | str z =>
            obtain ⟨v, e1, r⟩ := (valV_of (k := z) a4).2 d' (show look z ys = some d' from e)
            intro value slice pins s' σ v' u I rx ry hs
            obtain rfl : v' = Value.ref _ := rx
            have g : DGet H1 p' (.str (ofL z)) (some v) := by
              have g := DGet.k (k := .inr (ofL z)) a3
              rw [e1] at g
              exact g
            exact tail_any (dict_typeIs I g) PySem.F.slot_dict_getitem.lookup (d_getItem hu I g ry fun w' s3 I3 rw' => ⟨v, H1, I3, rw', fin v G1 H1 (Grow.refl S1.sub) r⟩) hs
          | _ => simp [opIx] at e
        | _ => simp only [z] at k1; exact False.elim k1
    · rw [if_neg hD] at k
      exact False.elim k
/-- xs.append(e) -/
theorem rs_append (i : Nat) (hN : X.N[i]? = some x) (hv : Vis X.env.scope x) (he : PE X e (tE X.K c f)) (hs : starEach [e] X.env = (false, eval e X.env) :: starEach [] X.env := by rfl)
    (hfew : ((backTo cpos (starEach [e] X.env)).all (fun x => !x.1) && (backToKw cpos (keywordEach [] X.env)).all (fun x => x.1.isSome) && decide ([e].length + ([] : List Keyword).length + (if ([] : List Keyword).isEmpty then 0 else 1) < 30)) = true := by rfl)
    (hline : (apos.endLine == cpos.line) = true := by rfl) (hsw : swapsWith (.Call (.Attribute (.Name x p) "append" apos) [e] [] cpos) none pos.line X.env = pure false := by rfl) (hd : (x == ("__debug__" : Str)) = false := by decide) (hcd : (x == ("__classdict__" : Str)) = false := by decide)
    (hbase : attributeBase (.Name x p) "append" X.env (eval (.Name x p) X.env) = eval (.Name x p) X.env := by rfl) :
    PS X (.Expr (.Call (.Attribute (.Name x p) "append" apos) [e] [] cpos) pos) (tS X.K c (sAppend i f)) :=
  PS_imp (ps_expr (pe_bm PySem.F.plainAttrs_list PySem.F.slot_list_append PySem.F.type_list_append mt_append (pe_var hN hv hd hcd) (pa_cons he pa_nil hs) hbase hfew hline hs rfl) hsw) fun D σ H q => by
    obtain ⟨π, ρ, G, S, k⟩ := q
    unfold sAppend at k
    by_cases hO : isO ρ i = true
    · rw [if_pos hO] at k
      obtain ⟨pa, xs, ws, h1, h2, h3, h4, h5⟩ := isO_of S hO
      refine ⟨.ref pa, h2, .inl ⟨rfl, _, SqL.of h4⟩, π, ρ, G, S, (PoS.bind k).mono fun d1 ρ1 G1 H1 _ _ S1 k1 w1 r1 => ?_⟩
      obtain ⟨s, d, d', p', a1, a2, a3, a4, a5, a6, a7⟩ := chg_of S1 k1
      have ep : p' = pa := by rw [h2] at a4; exact (V.ref.inj (Option.some.inj (Option.some.inj a4))).symm
      subst ep
      cases d with
      | lst ys =>
        simp only [hAppend] at a3
        split at a3
        · rename_i hl
          obtain rfl := Option.some.inj a3
          obtain ⟨vs, b1, b2⟩ := a6
          exact ⟨p', vs, w1, rfl, rfl, b1, by rw [b2.length, ← line_eq]; exact hl, a7 _ ⟨_, upd_same, b2.snoc r1⟩⟩
        · cases a3
      | _ => simp [hAppend] at a3
    · rw [if_neg hO] at k; exact False.elim k
theorem rs_extend (i : Nat) (hN : X.N[i]? = some x) (hv : Vis X.env.scope x) (he : PE X e (tE X.K c f)) (hs : starEach [e] X.env = (false, eval e X.env) :: starEach [] X.env := by rfl)
    (hfew : ((backTo cpos (starEach [e] X.env)).all (fun x => !x.1) && (backToKw cpos (keywordEach [] X.env)).all (fun x => x.1.isSome) && decide ([e].length + ([] : List Keyword).length + (if ([] : List Keyword).isEmpty then 0 else 1) < 30)) = true := by rfl)
    (hline : (apos.endLine == cpos.line) = true := by rfl) (hsw : swapsWith (.Call (.Attribute (.Name x p) "extend" apos) [e] [] cpos) none pos.line X.env = pure false := by rfl) (hd : (x == ("__debug__" : Str)) = false := by decide) (hcd : (x == ("__classdict__" : Str)) = false := by decide)
    (hbase : attributeBase (.Name x p) "extend" X.env (eval (.Name x p) X.env) = eval (.Name x p) X.env := by rfl) :
    PS X (.Expr (.Call (.Attribute (.Name x p) "extend" apos) [e] [] cpos) pos) (tS X.K c (sExtend i f)) :=
  PS_imp (ps_expr (pe_bm PySem.F.plainAttrs_list PySem.F.slot_list_extend PySem.F.type_list_extend mt_extend (pe_var hN hv hd hcd) (pa_cons he pa_nil hs) hbase hfew hline hs rfl) hsw) fun D σ H q => by
    obtain ⟨π, ρ, G, S, k⟩ := q
    unfold sExtend at k
    by_cases hO : isO ρ i = true
    · rw [if_pos hO] at k
      obtain ⟨pa, xs, ws, h1, h2, h3, h4, h5⟩ := isO_of S hO
      refine ⟨.ref pa, h2, .inl ⟨rfl, _, SqL.of h4⟩, π, ρ, G, S, (PoS.bind k).mono fun d1 ρ1 G1 H1 _ _ S1 k1 w1 r1 => ?_⟩
      obtain ⟨s, d, d', p', a1, a2, a3, a4, a5, a6, a7⟩ := chg_of S1 k1
      have ep : p' = pa := by rw [h2] at a4; exact (V.ref.inj (Option.some.inj (Option.some.inj a4))).symm
      subst ep
      cases d with
      | lst ys =>
        cases r1 with
        | lst g1 g2 =>
          simp only [hExtend] at a3
          split at a3
          · rename_i hl
            obtain rfl := Option.some.inj a3
            obtain ⟨vs, b1, b2⟩ := a6
            exact ⟨p', _, vs, _, rfl, rfl, b1, S1.sub _ _ g1, by rw [b2.length, g2.length, ← line_eq]; exact hl, a7 _ ⟨_, upd_same, b2.append g2⟩⟩
          · cases a3
        | _ => simp [hExtend] at a3
      | _ => simp [hExtend] at a3
    · rw [if_neg hO] at k; exact False.elim k
theorem rs_clear (i : Nat) (hN : X.N[i]? = some x) (hv : Vis X.env.scope x) (hline : (apos.endLine == cpos.line) = true := by rfl) (hsw : swapsWith (.Call (.Attribute (.Name x p) "clear" apos) [] [] cpos) none pos.line X.env = pure false := by rfl) (hd : (x == ("__debug__" : Str)) = false := by decide) (hcd : (x == ("__classdict__" : Str)) = false := by decide)
    (hbase : attributeBase (.Name x p) "clear" X.env (eval (.Name x p) X.env) = eval (.Name x p) X.env := by rfl) :
    PS X (.Expr (.Call (.Attribute (.Name x p) "clear" apos) [] [] cpos) pos) (tS X.K c (sClear i)) :=
  PS_imp (ps_expr (pe_bm0 PySem.F.plainAttrs_list PySem.F.slot_list_clear PySem.F.type_list_clear mt_clear (pe_var hN hv hd hcd) hbase hline) hsw) fun D σ H q => by
    obtain ⟨π, ρ, G, S, k⟩ := q
    obtain ⟨s, d, d', p', a1, a2, a3, a4, a5, a6, a7⟩ := chg_of S k
    cases d with
    | lst ys =>
      obtain rfl := Option.some.inj a3
      obtain ⟨vs, b1, b2⟩ := a6
      exact ⟨_, a4, .inl ⟨rfl, _, SqL.of b1⟩, p', vs, rfl, rfl, b1, a7 _ ⟨_, upd_same, .nil⟩⟩
    | _ => simp [hClear] at a3
theorem rs_revers (i : Nat) (hN : X.N[i]? = some x) (hv : Vis X.env.scope x) (hline : (apos.endLine == cpos.line) = true := by rfl) (hsw : swapsWith (.Call (.Attribute (.Name x p) "reverse" apos) [] [] cpos) none pos.line X.env = pure false := by rfl) (hd : (x == ("__debug__" : Str)) = false := by decide) (hcd : (x == ("__classdict__" : Str)) = false := by decide)
    (hbase : attributeBase (.Name x p) "reverse" X.env (eval (.Name x p) X.env) = eval (.Name x p) X.env := by rfl) :
    PS X (.Expr (.Call (.Attribute (.Name x p) "reverse" apos) [] [] cpos) pos) (tS X.K c (sRevers i)) :=
  PS_imp (ps_expr (pe_bm0 PySem.F.plainAttrs_list PySem.F.slot_list_reverse PySem.F.type_list_reverse mt_reverse (pe_var hN hv hd hcd) hbase hline) hsw) fun D σ H q => by
    obtain ⟨π, ρ, G, S, k⟩ := q
    obtain ⟨s, d, d', p', a1, a2, a3, a4, a5, a6, a7⟩ := chg_of S k
    cases d with
    | lst ys =>
      obtain rfl := Option.some.inj a3
      obtain ⟨vs, b1, b2⟩ := a6
      exact ⟨_, a4, .inl ⟨rfl, _, SqL.of b1⟩, p', vs, rfl, rfl, b1, a7 _ ⟨_, upd_same, b2.reverse⟩⟩
    | _ => simp [hRev] at a3
/-- xs.pop() -/
theorem re_pop (i : Nat) (hN : X.N[i]? = some x) (hv : Vis X.env.scope x) (hline : (apos.endLine == cpos.line) = true := by rfl) (hd : (x == ("__debug__" : Str)) = false := by decide) (hcd : (x == ("__classdict__" : Str)) = false := by decide)
    (hbase : attributeBase (.Name x p) "pop" X.env (eval (.Name x p) X.env) = eval (.Name x p) X.env := by rfl) :
    PE X (.Call (.Attribute (.Name x p) "pop" apos) [] [] cpos) (tE X.K c (ePop i)) :=
  PE_imp (pe_bm0 PySem.F.plainAttrs_list PySem.F.slot_list_pop PySem.F.type_list_pop mt_pop (pe_var hN hv hd hcd) hbase hline) fun σ H Q q => by
    obtain ⟨π, ρ, G, S, k⟩ := q
    unfold ePop at k
    have main : ∀ (s : Sl) (xs : List D), ρ[i]? = some s → (s = .o (.lst xs) ∨ ∃ j, s = .io j (.lst xs)) → Po X.K c π ρ G σ H (match xs.getLast? with
        | some d => .ok d (ρ.set i (s.setD (.lst xs.dropLast)))
        | none => .st) (JE X.K Q) → tBM0 X.K "list" rPop (tVar i) σ H Q := by
      intro s xs e hs k
      obtain ⟨p', h1, h2, ws, h3, h4⟩ := S.at_own e hs
      cases z : xs.getLast? with
      | none => rw [z] at k; exact False.elim k
      | some d =>
        rw [z] at k
        have hlast : xs[xs.length - 1]? = some d := by rw [← List.getLast?_eq_getElem?]; exact z
        obtain ⟨v, g1, g2⟩ := h4.get hlast
        have hdl : Reps X.K G ws.dropLast xs.dropLast := by
          rw [List.dropLast_eq_take, List.dropLast_eq_take, h4.length]
          exact h4.take _
        obtain ⟨S2, e2⟩ := S.turn (d' := .lst xs.dropLast) (ob := .lst ws.dropLast) e hs h1 ⟨_, upd_same, hdl⟩
        exact ⟨_, h1, .inl ⟨rfl, _, SqL.of h3⟩, p', ws, v, rfl, rfl, h3, by rw [h4.length]; exact g1, k G _ (Same.refl _) e2 S2 v g2⟩
    cases e : ρ[i]? with
    | none => rw [e] at k; exact False.elim k
    | some s =>
      rw [e] at k
      cases s with
      | o d =>
        cases d with
        | lst xs => exact main _ xs e (.inl rfl) k
        | _ => exact False.elim k
      | io j d =>
        cases d with
        | lst xs => exact main _ xs e (.inr ⟨j, rfl⟩) k
        | _ => exact False.elim k
      | _ => exact False.elim k
end
end NV

set_option Elab.async false
set_option linter.all false
set_option maxRecDepth 100000
set_option maxHeartbeats 4000000
/-! Lay11: stores by place; calls of defs; a def's promise. -/
namespace NV
open PySem PySem.Spec PyProof.Rows L2
theorem put_rep {K : PySem.W.Frag} {H : Hp} {z : List Nat} {w : V} {d1 : D} (r : Rep K H w d1) {ys : List (List Nat × D)} {vs : List (Key × V)} (b2 : RepK K H vs ys) : RepK K H (putK vs (.inr (ofL z)) w) (put z d1 ys) := by
  unfold putK put
  have any_of : (vs.any fun kv => decide (kv.1 = Sum.inr (ofL z))) = (look z ys).isSome := by
    rw [valV_any]
    obtain ⟨v1, v2⟩ := valV_of (k := z) b2
    cases hl : look z ys with
    | none => rw [v1 hl]; rfl
    | some d => obtain ⟨w, e1, _⟩ := v2 d hl; rw [e1]; rfl
  rw [any_of]
  by_cases hl : (look z ys).isSome = true
  · rw [if_pos hl, if_pos hl]
    clear any_of hl
    induction ys generalizing vs with
    | nil => cases b2; exact .nil
    | cons q t ih =>
      cases b2 with
      | @cons k v vs' d' ds' q1 q2 =>
        rw [List.map_cons, List.map_cons]
        by_cases e : k = z
        · subst e
          rw [if_pos rfl, if_pos rfl]
          exact .cons r (ih q2)
        · rw [if_neg (fun w => e (ofL_inj (Sum.inr.inj w))), if_neg e]
          exact .cons q1 (ih q2)
  · rw [if_neg hl, if_neg hl]
    clear any_of hl
    induction ys generalizing vs with
    | nil => cases b2; exact .cons r .nil
    | cons q t ih =>
      cases b2 with
      | cons q1 q2 => exact .cons q1 (ih q2)
section
variable {X : Cx} {c : Lv} {a b e : Expr} {es : List Expr} {f h l : Ev} {r : Ea} {pos p apos cpos pos' tpos : Pos} {x : Str}
theorem rs_setIx (i : Nat) (hu : X.A.units + 1 < cLine) (hN : X.N[i]? = some x) (hv : Vis X.env.scope x) (hb : PE X b (tE X.K c f)) (he : PE X e (tE X.K c h))
    (hsw : swapsWith e (some (.Subscript (.Name x p) b pos')) pos.line X.env = pure false := by rfl)
    (hA : ∀ v, assign (.Subscript (.Name x p) b pos') X.env v = (do
      let ov ← holding [v] (eval (.Name x p) X.env)
      let iv ← holding [v, ov] (eval b X.env)
      standAt pos'
      holding [v, ov, iv] (setItem ov iv v)
      release [v, ov, iv] []) := by intro _; rfl)
    (hs : swapsWithSole [.Subscript (.Name x p) b pos'] e pos.line X.env = pure false := by rfl) (hw : swappedStores [.Subscript (.Name x p) b pos'] e X.env = pure none := by rfl)
    (h1 : (assignEach [.Subscript (.Name x p) b pos'] X.env).map (·.2) = [assign (.Subscript (.Name x p) b pos') X.env] := by rfl)
    (hd : (x == ("__debug__" : Str)) = false := by decide) (hcd : (x == ("__classdict__" : Str)) = false := by decide) :
    PS X (.Assign [.Subscript (.Name x p) b pos'] e pos) (tS X.K c (sSetIx i f h)) := ⟨fun pins s σ H D I q => by
  obtain ⟨π, ρ, G, S, k⟩ := q
  unfold sSetIx at k
  by_cases hO : isO ρ i = true
  · rw [if_pos hO] at k
    obtain ⟨pa, xs, ws, g1, g2, g3, g4, g5⟩ := isO_of S hO
    refine (ps_asg he (pg_sub (pe_var hN hv hd hcd) hb set_list hA) hs hw h1).run pins s σ H D I ?_
    refine ⟨π, ρ, G, S, (PoS.bind k).mono fun d1 ρ1 G1 H1 _ _ S1 k1 w1 r1 => ⟨.ref pa, g2, π, ρ1, G1, S1, (PoS.bind k1).mono fun d2 ρ2 G2 H2 s2 _ S2 k2 w2 r2 => ?_⟩⟩
    obtain ⟨s', d, d', p', a1, a2, a3, a4, a5, a6, a7⟩ := chg_of S2 k2
    have ep : p' = pa := by rw [g2] at a4; exact (V.ref.inj (Option.some.inj (Option.some.inj a4))).symm
    subst ep
    cases d with
    | lst ys =>
      cases r2 with
      | int j =>
        simp only [hSetL, Option.map_eq_some_iff] at a3
        obtain ⟨jj, hj, rfl⟩ := a3
        obtain ⟨vs, b1, b2⟩ := a6
        exact ⟨p', vs, j, jj, rfl, rfl, b1, by rw [b2.length]; exact hj, a7 _ ⟨_, upd_same, b2.set (r1.mono s2 _) jj⟩⟩
      | _ => simp [hSetL] at a3
    | _ => simp [hSetL] at a3
  · rw [if_neg hO] at k
    by_cases hD : isD ρ i = true
    · rw [if_pos hD] at k
      obtain ⟨pa, xs, ws, g1, g2, g3, g4, g5⟩ := isD_of S hD
      refine (ps_dput hu (pe_var hN hv hd hcd) hb he hsw).run pins s σ H D I ?_
      refine ⟨π, ρ, G, S, (PoS.bind k).mono fun d1 ρ1 G1 H1 _ _ S1 k1 w1 r1 => ⟨.ref pa, g2, π, ρ1, G1, S1, (PoS.bind k1).mono fun d2 ρ2 G2 H2 s2 _ S2 k2 w2 r2 => ?_⟩⟩
      obtain ⟨s', d, d', p', a1, a2, a3, a4, a5, a6, a7⟩ := chg_of S2 k2
      have ep : p' = pa := by rw [g2] at a4; exact (V.ref.inj (Option.some.inj (Option.some.inj a4))).symm
      subst ep
      cases d with
      | dct ys =>
        cases r2 with
        | str z =>
          simp only [hSetD] at a3
          split at a3
          · rename_i hl
            obtain rfl := Option.some.inj a3
            obtain ⟨vs, b1, b2⟩ := a6
            refine ⟨p', _, rfl, DPut.k (k := .inr (ofL z)) b1 (by rw [b2.length, ← line_eq]; exact hl), a7 _ ⟨_, upd_same, ?_⟩⟩
            exact put_rep (r1.mono s2 _) b2
          · cases a3
        | _ => simp [hSetD] at a3
      | _ => simp [hSetD] at a3
    · rw [if_neg hD] at k
      exact False.elim k⟩
def rGetL (K : PySem.W.Frag) : V → V → Hp → VK → Prop := fun o i H Q => ∃ p xs k v, o = .ref p ∧ i = .int k ∧ SqL K H p xs ∧ atI xs k = some v ∧ Q v H
theorem get_list : PGet X (rGetL X.K) := by
  intro pins s σ H x y v u Q I rx ry h
  obtain ⟨p, xs, i, z, rfl, rfl, hq, he, q⟩ := h
  cases rx
  obtain ⟨t, rfl⟩ := ry
  obtain ⟨its, r, pl, hz⟩ := I.list hq
  obtain ⟨j, h1, h2, h3, h4, h5⟩ := atI_get he
  obtain ⟨w, ew, rw'⟩ := r.get h2
  have hl := r.length
  have hn := line63
  have fin : EP X pins σ Q w s := ⟨z, H, I, rw', q⟩
  by_cases h0 : 0 ≤ i
  · have hj : i.toNat = j := by
      rw [seqIndex_of h0 h5] at h1
      exact Option.some.inj h1
    exact wpAny_getItem_list pl.isList h0 (by omega) (by rw [hj]; simpa using ew) fin
  · have hj : (i + (its.toArray.size : Int)).toNat = j := by
      rw [seqIndex_neg (by omega) h4] at h1
      rw [List.size_toArray, ← hl]
      exact Option.some.inj h1
    exact wpAny_getItem_list_neg pl.isList (by omega) (by rw [List.size_toArray] <;> omega) (by omega) (by rw [hj]; simpa using ew) fin
theorem rs_augIx (i : Nat) {op : Operator} {g : D → D → Option D} (hN : X.N[i]? = some x) (hv : Vis X.env.scope x) (hb : PE X b (tE X.K c f)) (ho : OpD X (inplaceOp op) g) (he : PE X e (tE X.K c h))
    (hA : ∀ ov iv new, augStore b ov iv new = (do holding [new, ov, iv] (setItem ov iv new); release [new, ov, iv] []; pure .next) := by intros; rfl)
    (hd : (x == ("__debug__" : Str)) = false := by decide) (hcd : (x == ("__classdict__" : Str)) = false := by decide) :
    PS X (.AugAssign (.Subscript (.Name x p) b tpos) op e pos) (tS X.K c (sAugIx i f g h)) := by
  have hp : PIp X op (rU2 X (inplaceOp op)) := fun pins s σ H x y v u Q I rx ry hh => hh pins s σ v u I rx ry
  refine PS_imp (ps_augS (pe_var hN hv hd hcd) hb get_list he hp set_list hA) fun D σ H q => ?_
  obtain ⟨π, ρ, G, S, k⟩ := q
  unfold sAugIx at k
  by_cases hO : isO ρ i = true
  · rw [if_neg (by rw [hO]; exact Bool.noConfusion)] at k
    obtain ⟨pa, xs, ws, g1, g2, g3, g4, g5⟩ := isO_of S hO
    refine ⟨.ref pa, g2, π, ρ, G, S, (PoS.bind k).mono fun d1 ρ1 G1 H1 _ _ S1 k1 w1 r1 => ?_⟩
    cases z : held ρ1 i with
    | none => simp only [z] at k1; exact False.elim k1
    | some d =>
      cases d with
      | lst ys =>
        simp only [z] at k1
        obtain ⟨p', a1, a2, ws', a3, a4⟩ := held_of S1 z
        have ep : p' = pa := by rw [g2] at a1; exact (V.ref.inj (Option.some.inj (Option.some.inj a1))).symm
        subst ep
        cases r1 with
        | int j =>
          cases e : opIx (.lst ys) (.int j) with
          | none => simp only [e] at k1; exact False.elim k1
          | some old =>
            simp only [e] at k1
            obtain ⟨j', e1, e2⟩ := at_len a4.length (show NV.at? _ j = some old from e)
            obtain ⟨v, e3, r⟩ := a4.get e1
            refine ⟨p', ws', j, v, rfl, rfl, SqL.of a3, e2 v e3, π, ρ1, G1, S1, (PoS.bind k1).mono fun d2 ρ2 G2 H2 s2 _ S2 k2 w2 r2 => ?_⟩
            have k3 := PoS.bind k2
            cases z2 : g old d2 with
            | none => rw [z2] at k3; exact False.elim k3
            | some d3 =>
              rw [z2] at k3
              refine ho.run S2.sub (r.mono s2 _) r2 z2 fun w3 G3 H3 gr3 r3 => ?_
              have k4 := k3.grow S2 gr3
              have S3 := (S2.grow gr3).1
              obtain ⟨s', d, d', p'', b1, b2, b3, b4, b5, b6, b7⟩ := chg_of S3 k4
              have ep : p'' = p' := by rw [g2] at b4; exact (V.ref.inj (Option.some.inj (Option.some.inj b4))).symm
              subst ep
              cases d with
              | lst zs =>
                simp only [hSetL, Option.map_eq_some_iff] at b3
                obtain ⟨jj, hj, rfl⟩ := b3
                obtain ⟨vs, c1, c2⟩ := b6
                exact ⟨p'', vs, j, jj, rfl, rfl, c1, by rw [c2.length]; exact hj, b7 _ ⟨_, upd_same, c2.set r3 jj⟩⟩
              | _ => simp [hSetL] at b3
        | _ => simp [opIx] at k1; exact False.elim k1
      | _ => simp only [z] at k1; exact False.elim k1
  · rw [if_pos (by simpa using hO)] at k
    exact False.elim k
end
end NV

set_option Elab.async false
set_option linter.all false
set_option maxRecDepth 100000
set_option maxHeartbeats 4000000
/-! Lay12: calls of defs; a def's promise; the law's. -/
namespace NV
open PySem PySem.Spec PyProof.Rows L2
/-- what a def promises: what its semantics says -/
def spD (K : PySem.W.Frag) (Z : Exn → Value → Option Addr → Hp → Prop) (n : Nat) (s : Df) : Sp := fun vs H Q E => vs.length = n ∧ ∃ (π : Nat → Addr) (as : Env) (G : Hp), SE K π as G (vs.map some) H ∧
  Po K ⟨Z, fun cls d _ H' => E cls d H'⟩ π as G (vs.map some) H (s as) fun r as' G' H' => ∀ w, RR K as (vs.map some) H as' (vs.map some) G' H' r w → Q w H'
section
variable {K : PySem.W.Frag} {π : Nat → Addr} {ρ ρ1 ρ' : Env} {G G1 G' : Hp} {σ σ1 σ' : St} {H H1 H' : Hp} {c : Lv}
/-- behind a call that changed nothing of the caller's -/
theorem SE.after (S : SE K π ρ G σ H) (s : Same G G') (sub : Same G' H') (hk : ∀ b o, H b = some o → H' b = some o ∧ (G b = none → G' b = none)) : SE K π ρ G' σ H' ∧ Ext ρ σ G H ρ σ G' H' := by
  have no : ∀ {b : Addr}, Ownd ρ σ b → G' b = none ∧ H' b = H b := fun {b} h => by
    obtain ⟨g, o, ho⟩ := S.own h
    obtain ⟨a1, a2⟩ := hk b o ho
    exact ⟨a2 g, a1.trans ho.symm⟩
  refine ⟨⟨sub, S.len, fun i t h => ?_, S.inj⟩, fun b o hb n => ⟨(hk b o hb).1, n, (hk b o hb).2⟩⟩
  have k := S.ok i t h
  cases t with
  | un => trivial
  | v d => obtain ⟨w, e, r⟩ := k; exact ⟨w, e, r.mono s _⟩
  | o d =>
    obtain ⟨p, e, g, ow⟩ := k
    obtain ⟨a1, a2⟩ := no ⟨i, _, h, rfl, e⟩
    exact ⟨p, e, a1, ow.mono s a2⟩
  | io j d =>
    obtain ⟨e, g, ow⟩ := k
    obtain ⟨a1, a2⟩ := no ⟨i, _, h, rfl, e⟩
    exact ⟨e, a1, ow.mono s a2⟩
/-- .. that turned the one that was lent -/
theorem SE.lentX (S : SE K π ρ G σ H) {i : Nat} {t : Sl} {d e' : D} {p : Addr} (e : ρ[i]? = some t) (hs : t = .o d ∨ ∃ k, t = .io k d) (hp : σ[i]? = some (some (.ref p))) (s : Same G G') (sub : Same G' H')
    (hk : ∀ b o, b ≠ p → H b = some o → H' b = some o ∧ (G b = none → G' b = none)) (gp : G' p = none) (ow : Own K G' H' p e') : SE K π (ρ.set i (t.setD e')) G' σ H' ∧ Ext ρ σ G H (ρ.set i (t.setD e')) σ G' H' := by
  have so : t.owned = true := by rcases hs with rfl | ⟨_, rfl⟩ <;> rfl
  have so' : (t.setD e').owned = true := by rcases hs with rfl | ⟨_, rfl⟩ <;> rfl
  have oth : ∀ {j : Nat} {u : Sl} {b : Addr}, j ≠ i → ρ[j]? = some u → u.owned = true → σ[j]? = some (some (.ref b)) → b ≠ p := fun {j u b} n h o hb z => n (S.inj j i b u t h e o so hb (by rw [z]; exact hp))
  have no : ∀ {j : Nat} {u : Sl} {b : Addr}, j ≠ i → ρ[j]? = some u → u.owned = true → σ[j]? = some (some (.ref b)) → G' b = none ∧ H' b = H b := fun {j u b} n h o hb => by
    obtain ⟨g, x, ho⟩ := S.own ⟨j, u, h, o, hb⟩
    obtain ⟨a1, a2⟩ := hk b x (oth n h o hb) ho
    exact ⟨a2 g, a1.trans ho.symm⟩
  refine ⟨⟨sub, by rw [List.length_set]; exact S.len, fun j u h => ?_, fun j k b u v h1 h2 o1 o2 q1 q2 => ?_⟩, fun b x hb n => ?_⟩
  · rcases getset h with ⟨rfl, _, rfl⟩ | ⟨n, h⟩
    · rcases hs with rfl | ⟨k, rfl⟩
      · exact ⟨p, hp, gp, ow⟩
      · have k' := S.ok j _ e
        have e2 : π k = p := by
          have := k'.1
          rw [hp] at this
          exact (V.ref.inj (Option.some.inj (Option.some.inj this))).symm
        show σ[j]? = some (some (.ref (π k))) ∧ G' (π k) = none ∧ Own K G' H' (π k) e'
        rw [e2]
        exact ⟨hp, gp, ow⟩
    · have k := S.ok j u h
      cases u with
      | un => trivial
      | v d => obtain ⟨w, e, r⟩ := k; exact ⟨w, e, r.mono s _⟩
      | o d =>
        obtain ⟨q, e1, g1, o1⟩ := k
        obtain ⟨a1, a2⟩ := no n h rfl e1
        exact ⟨q, e1, a1, o1.mono s a2⟩
      | io m d =>
        obtain ⟨e1, g1, o1⟩ := k
        obtain ⟨a1, a2⟩ := no n h rfl e1
        exact ⟨e1, a1, o1.mono s a2⟩
  · have ox : ∀ {j : Nat} {u : Sl}, (ρ.set i (t.setD e'))[j]? = some u → u.owned = true → ∃ u', ρ[j]? = some u' ∧ u'.owned = true := fun {j u} h o => by
      rcases getset h with ⟨rfl, _, rfl⟩ | ⟨_, h⟩
      · exact ⟨t, e, so⟩
      · exact ⟨u, h, o⟩
    obtain ⟨t1, a1, b1⟩ := ox h1 o1
    obtain ⟨t2, a2, b2⟩ := ox h2 o2
    exact S.inj j k b t1 t2 a1 a2 b1 b2 q1 q2
  · have hb' : b ≠ p := fun z => n ⟨i, t, e, so, by rw [z]; exact hp⟩
    obtain ⟨a1, a2⟩ := hk b x hb' hb
    refine ⟨a1, fun ⟨j, u, h1, o1, h2⟩ => ?_, a2⟩
    rcases getset h1 with ⟨rfl, _, rfl⟩ | ⟨m, h1⟩
    · rw [hp] at h2
      exact hb' (V.ref.inj (Option.some.inj (Option.some.inj h2))).symm
    · exact n ⟨j, u, h1, o1, h2⟩
theorem vget {ds : List D} {i : Nat} {s : Sl} (h : (ds.map Sl.v)[i]? = some s) : ∃ d, ds[i]? = some d ∧ s = .v d := by
  rw [List.getElem?_map] at h
  cases e : ds[i]? with
  | none => rw [e] at h; cases h
  | some d => rw [e] at h; exact ⟨d, rfl, (Option.some.inj h).symm⟩
theorem sget {vs : List V} {i : Nat} {w : V} (h : vs[i]? = some w) : (vs.map some)[i]? = some (some w) := by
  rw [List.getElem?_map, h]; rfl
/-- a callee's start -/
theorem SE.args (sub : Same G H) {ds : List D} {vs : List V} (r : Reps K G vs ds) (π' : Nat → Addr) : SE K π' (ds.map Sl.v) G (vs.map some) H := by
  refine ⟨sub, by rw [List.length_map, List.length_map, r.length], fun i s h => ?_, fun i j b s t h1 h2 o1 o2 => ?_⟩
  · obtain ⟨d, hd, rfl⟩ := vget h
    obtain ⟨w, hw, rw'⟩ := r.get hd
    exact ⟨w, sget hw, rw'⟩
  · obtain ⟨d, hd, rfl⟩ := vget h1
    cases o1
theorem noOwn_v {ds : List D} {τ : St} {b : Addr} : ¬ Ownd (ds.map Sl.v) τ b := fun ⟨i, s, h, o, _⟩ => by
  obtain ⟨d, _, rfl⟩ := vget h
  cases o
end
section
variable {X : Cx} {c : Lv} {e : Expr} {es : List Expr} {fs : Ea} {pos p : Pos} {x : Str} {s : Df} {n k : Nat} {f : Addr} {fd : FuncData} {ps : List Str}
theorem ro_call (F : FnOk X.prog X.w X.K X.mg X.base (L2.CX X.prog X.w) k f fd ps (spD X.K c.Z n s)) (hn : ∀ as, s as ≠ .st → as.length = n) (hr : Room k X.A) (hg : Gl X x) (hm : X.mg x = some (.ref f)) (hk : PySem.W.keepIn X.K (.ref f) = true) (hb : Binds X.K fd ps []) (tk : Takes X c.W)
    (ha : PA X (e :: es) (tA X.K c fs)) (hdb : (x == ("__debug__" : Str)) = false := by decide) (he : starEach (e :: es) X.env = (false, eval e X.env) :: starEach es X.env := by rfl) (hpl : (backTo pos (starEach es X.env)).any (·.1) = false := by rfl) :
    PE X (.Call (.Name x p) (e :: es) [] pos) (tO X.K c (eCall s fs)) := PE_imp (pe_callS F hr hg hm hk hb (fun σ => passAt tk σ) ha hdb he hpl) fun σ H Q q => by
  obtain ⟨π, ρ, G, S, k⟩ := q
  refine ⟨π, ρ, G, S, (Po.bind k).mono fun ds ρ1 G1 H1 s1 e1 S1 k1 vs r => ?_⟩
  have SC := SE.args S1.sub r π
  have hlen : s (ds.map .v) ≠ .st → vs.length = n := fun z => by
    have := hn _ z
    rw [List.length_map] at this
    rw [r.length, this]
  cases z : s (ds.map Sl.v) with
  | ok rr as' =>
    simp only [z] at k1
    refine ⟨hlen (by rw [z]; exact fun q => by cases q), π, _, G1, SC, ?_⟩
    rw [z]
    intro G' H' s' e' S' w q
    obtain ⟨S2, e2⟩ := S1.after s' S'.sub fun b o hb => by
      obtain ⟨a1, _, a3⟩ := e' b o hb noOwn_v
      exact ⟨a1, a3⟩
    refine k1 G' H' s' e2 S2 w ?_
    cases rr with
    | v d => exact q
    | o d =>
      obtain ⟨pp, rfl, q1, q2, q3, q4⟩ := q
      have h1 : H1 pp = none := q4.resolve_right noOwn_v
      refine ⟨pp, rfl, q1, q2, fun z => ?_, ?_⟩
      · obtain ⟨_, o, ho⟩ := S1.own z
        rw [h1] at ho; cases ho
      · cases zz : H pp with
        | none => exact .inl rfl
        | some o =>
          by_cases m : Ownd ρ σ pp
          · exact .inr m
          · have := (e1 pp o zz m).1
            rw [h1] at this; cases this
    | un => exact False.elim q
    | io _ _ => exact False.elim q
  | rz xx as' =>
    simp only [z] at k1
    refine ⟨hlen (by rw [z]; exact fun q => by cases q), π, _, G1, SC, ?_⟩
    rw [z]
    intro cls d G' H' s' e' S' hz
    obtain ⟨S2, e2⟩ := S1.after s' S'.sub fun b o hb => by
      obtain ⟨a1, _, a3⟩ := e' b o hb noOwn_v
      exact ⟨a1, a3⟩
    exact k1 cls d G' H' s' e2 S2 hz
  | st => simp only [z] at k1; exact False.elim k1
/-- .. as a value -/
theorem re_val {f : Eo} (h : PE X e (tO X.K c f)) : PE X e (tE X.K c (val f)) := PE_imp h fun σ H Q q => by
  obtain ⟨π, ρ, G, S, k⟩ := q
  refine ⟨π, ρ, G, S, ?_⟩
  cases z : f ρ with
  | st => rw [val, z] at k; exact False.elim k
  | rz x ρ1 => rw [val, z] at k; exact k
  | ok r ρ1 =>
  rw [val, z] at k
  intro G1 H1 s1 e1 S1 w q
  cases r with
  | v d => exact k G1 H1 s1 e1 S1 w q
  | o d =>
    obtain ⟨pp, rfl, q1, q2, q3, q4⟩ := q
    -- the list joins the values
    obtain ⟨o, ho⟩ := q2.some
    have sG : Same G1 (L2.upd G1 pp o) := Same.new q1
    have S3 : SE X.K π ρ1 (L2.upd G1 pp o) σ H1 := by
      refine ⟨fun b x hb => ?_, S1.len, fun i t hs => ?_, S1.inj⟩
      · by_cases hb' : b = pp
        · subst hb'; rw [upd_same] at hb; rw [ho]; exact hb
        · rw [upd_ne hb'] at hb; exact S1.sub _ _ hb
      · have kk := S1.ok i t hs
        cases t with
        | un => trivial
        | v d => obtain ⟨w, e, r⟩ := kk; exact ⟨w, e, r.mono sG _⟩
        | o d =>
          obtain ⟨p', e, a1, a2⟩ := kk
          exact ⟨p', e, by rw [upd_ne (fun z => q3 ⟨i, _, hs, rfl, by rw [← z]; exact e⟩)]; exact a1, a2.mono sG rfl⟩
        | io j d =>
          obtain ⟨e, a1, a2⟩ := kk
          exact ⟨e, by rw [upd_ne (fun z => q3 ⟨i, _, hs, rfl, by rw [← z]; exact e⟩)]; exact a1, a2.mono sG rfl⟩
    have rep : Rep X.K (L2.upd G1 pp o) (.ref pp) d := by
      cases d with
      | lst ds => obtain ⟨ws, b1, b2⟩ := q2; rw [ho] at b1; cases b1; exact .lst upd_same (Reps.mono sG _ _ b2)
      | dct ds => obtain ⟨ws, b1, b2⟩ := q2; rw [ho] at b1; cases b1; exact .dct upd_same (RepK.mono sG _ _ b2)
      | _ => exact False.elim q2
    refine k (L2.upd G1 pp o) H1 (s1.trans sG) (fun b x hb hn => ?_) S3 _ rep
    obtain ⟨a1, a2, a3⟩ := e1 b x hb hn
    refine ⟨a1, a2, fun hz => ?_⟩
    have hne : b ≠ pp := fun z => by
      subst z
      rcases q4 with q | q
      · rw [hb] at q; cases q
      · exact hn q
    rw [upd_ne hne]
    exact a3 hz
  | un => exact False.elim q
  | io _ _ => exact False.elim q
end
end NV

set_option Elab.async false
set_option linter.all false
set_option maxRecDepth 100000
set_option maxHeartbeats 4000000
/-! Lay13: a def keeps its promise; a call that lends a list. -/
namespace NV
open PySem PySem.Spec PyProof.Rows L2
theorem lent_len : ∀ (as ρ : Env), (lent as ρ).length = as.length
  | [], _ => rfl
  | .v d :: as, ρ => by rw [lent, List.length_cons, List.length_cons, lent_len as]
  | .io k _ :: as, ρ => by rw [lent, List.length_cons, List.length_cons, lent_len as]
  | .o _ :: as, ρ => by rw [lent, List.length_cons, List.length_cons, lent_len as]
  | .un :: as, ρ => by rw [lent, List.length_cons, List.length_cons, lent_len as]
theorem lent_get : ∀ (as ρ : Env) (i : Nat) (s : Sl), (lent as ρ)[i]? = some s → s = .un ∨ (∃ d, s = .v d ∧ as[i]? = some (.v d)) ∨ ∃ k d e, s = .io k e ∧ as[i]? = some (.io k d) ∧ ρ[i]? = some (.io k e)
  | [], _, _, _, h => by simp [lent] at h
  | a :: as, ρ, i + 1, s, h => by
    have h' : (lent as ρ.tail)[i]? = some s := by
      cases a <;> (rw [lent] at h; simpa using h)
    rcases lent_get as ρ.tail i s h' with q | ⟨d, e, q⟩ | ⟨k, d, e, e1, q, r⟩
    · exact .inl q
    · exact .inr (.inl ⟨d, e, by simpa using q⟩)
    · exact .inr (.inr ⟨k, d, e, e1, by simpa using q, by rw [← r]; cases ρ <;> simp⟩)
  | .v d :: as, ρ, 0, s, h => by
    rw [lent] at h
    have e : Sl.v d = s := by simpa using h
    exact .inr (.inl ⟨d, e.symm, rfl⟩)
  | .o d :: as, ρ, 0, s, h => by
    rw [lent] at h
    have e : Sl.un = s := by simpa using h
    exact .inl e.symm
  | .un :: as, ρ, 0, s, h => by
    rw [lent] at h
    have e : Sl.un = s := by simpa using h
    exact .inl e.symm
  | .io k d :: as, ρ, 0, s, h => by
    rw [lent] at h
    cases ρ with
    | nil => exact .inl (by simpa using h.symm)
    | cons t ρ =>
      cases t with
      | io j e =>
        by_cases hk : k = j
        · subst hk
          have e' : Sl.io k e = s := by simpa using h
          exact .inr (.inr ⟨k, d, e, e'.symm, rfl, rfl⟩)
        · have e' : Sl.un = s := by simpa [hk] using h
          exact .inl e'.symm
      | _ => exact .inl (by simpa using h.symm)
section
variable {K : PySem.W.Frag} {π : Nat → Addr} {as ρ ρ' : Env} {G G' : Hp} {vs : List V} {σ σ' : St} {H H' : Hp} {c : Lv}
theorem st_get {N : List Str} {i : Nat} {w : V} (h : (L2.start N vs)[i]? = some (some w)) : vs[i]? = some w := by
  unfold L2.start at h
  by_cases hi : i < vs.length
  · rw [List.getElem?_append_left (by simpa using hi), List.getElem?_map] at h
    cases e : vs[i]? with
    | none => rw [e] at h; cases h
    | some a => rw [e] at h; cases h; rfl
  · rw [List.getElem?_append_right (by simpa using hi), List.getElem?_replicate] at h
    split at h <;> cases h
theorem st_put {N : List Str} {i : Nat} {w : V} (h : (vs.map some)[i]? = some (some w)) : (L2.start N vs)[i]? = some (some w) := by
  unfold L2.start
  have hi : i < (vs.map some).length := by
    by_cases hi : i < (vs.map some).length
    · exact hi
    · rw [List.getElem?_eq_none (by omega)] at h; cases h
  rw [List.getElem?_append_left hi]
  exact h
theorem en_get {m i : Nat} {s : Sl} (h : (as ++ List.replicate m Sl.un)[i]? = some s) : s = .un ∨ as[i]? = some s := by
  by_cases hi : i < as.length
  · rw [List.getElem?_append_left hi] at h; exact .inr h
  · rw [List.getElem?_append_right (by omega), List.getElem?_replicate] at h
    split at h
    · cases h; exact .inl rfl
    · cases h
theorem en_put {m i : Nat} {s : Sl} (h : as[i]? = some s) : (as ++ List.replicate m Sl.un)[i]? = some s := by
  have hi : i < as.length := by
    by_cases hi : i < as.length
    · exact hi
    · rw [List.getElem?_eq_none (by omega)] at h; cases h
  rw [List.getElem?_append_left hi]
  exact h
theorem mget {i : Nat} {w : V} (h : vs[i]? = some w) : (vs.map some)[i]? = some (some w) := by rw [List.getElem?_map, h]; rfl
/-- a body's start -/
theorem SE.begin (S : SE K π as G (vs.map some) H) {N : List Str} {m : Nat} (hl : N.length = as.length + m) : SE K π (as ++ List.replicate m .un) G (L2.start N vs) H := by
  have hv : as.length = vs.length := by have := S.len; rwa [List.length_map] at this
  refine ⟨S.sub, ?_, fun i s h => ?_, fun i j b s t h1 h2 o1 o2 q1 q2 => ?_⟩
  · unfold L2.start
    rw [List.length_append, List.length_append, List.length_map, List.length_replicate, List.length_replicate]
    omega
  · rcases en_get h with rfl | h
    · trivial
    · have k := S.ok i s h
      cases s with
      | un => trivial
      | v d => obtain ⟨w, e, r⟩ := k; exact ⟨w, st_put e, r⟩
      | o d => obtain ⟨p, e, g, r⟩ := k; exact ⟨p, st_put e, g, r⟩
      | io j d => obtain ⟨e, g, r⟩ := k; exact ⟨st_put e, g, r⟩
  · rcases en_get h1 with rfl | h1
    · cases o1
    rcases en_get h2 with rfl | h2
    · cases o2
    exact S.inj i j b s t h1 h2 o1 o2 (mget (st_get q1)) (mget (st_get q2))
theorem own_begin {N : List Str} {m : Nat} {b : Addr} (h : Ownd (as ++ List.replicate m .un) (L2.start N vs) b) : Ownd as (vs.map some) b := by
  obtain ⟨i, s, h1, o, h2⟩ := h
  rcases en_get h1 with rfl | h1
  · cases o
  exact ⟨i, s, h1, o, mget (st_get h2)⟩
/-- a body's end -/
theorem SE.ends (S : SE K π as G (vs.map some) H) {N : List Str} {m : Nat} (s : Same G G') (e : Ext (as ++ List.replicate m .un) (L2.start N vs) G H ρ' σ' G' H') (S' : SE K π ρ' G' σ' H') :
    SE K π (lent as ρ') G' (vs.map some) H' ∧ Ext as (vs.map some) G H (lent as ρ') (vs.map some) G' H' ∧ ∀ b, Ownd (lent as ρ') (vs.map some) b → Ownd ρ' σ' b := by
  have ow : ∀ b, Ownd (lent as ρ') (vs.map some) b → Ownd ρ' σ' b ∧ Ownd as (vs.map some) b := fun b h => by
    obtain ⟨i, t, h1, o, h2⟩ := h
    rcases lent_get _ _ _ _ h1 with rfl | ⟨d, rfl, _⟩ | ⟨k, d, e, rfl, q1, q2⟩
    · cases o
    · cases o
    have k1 := S.ok i _ q1
    have k2 := S'.ok i _ q2
    have e1 : π k = b := by
      have := k1.1
      rw [h2] at this
      exact (V.ref.inj (Option.some.inj (Option.some.inj this))).symm
    refine ⟨⟨i, _, q2, rfl, by rw [k2.1, e1]⟩, ⟨i, _, q1, rfl, h2⟩⟩
  refine ⟨⟨S'.sub, by rw [lent_len]; exact S.len, fun i t h => ?_, fun i j b t u h1 h2 o1 o2 q1 q2 => ?_⟩, fun b o hb n => ?_, fun b h => (ow b h).1⟩
  · rcases lent_get _ _ _ _ h with rfl | ⟨d, rfl, q⟩ | ⟨k, d, e', rfl, q1, q2⟩
    · trivial
    · obtain ⟨w, e1, r⟩ := S.ok i _ q
      exact ⟨w, e1, r.mono s _⟩
    · have k1 := S.ok i _ q1
      have k2 := S'.ok i _ q2
      exact ⟨k1.1, k2.2.1, k2.2.2⟩
  · have wit : ∀ {i : Nat} {t : Sl}, (lent as ρ')[i]? = some t → t.owned = true → ∃ t', as[i]? = some t' ∧ t'.owned = true := fun {i t} h o => by
      rcases lent_get _ _ _ _ h with rfl | ⟨d, rfl, _⟩ | ⟨k, d, e', rfl, q1, q2⟩
      · cases o
      · cases o
      · exact ⟨_, q1, rfl⟩
    obtain ⟨t1, a1, b1⟩ := wit h1 o1
    obtain ⟨t2, a2, b2⟩ := wit h2 o2
    exact S.inj i j b t1 t2 a1 a2 b1 b2 q1 q2
  · obtain ⟨a1, a2, a3⟩ := e b o hb fun z => n (own_begin z)
    exact ⟨a1, fun z => n (ow b z).2, a3⟩
theorem RR.ends {r : Sl} {w : V} {N : List Str} {m : Nat} (ow : ∀ b, Ownd (lent as ρ') (vs.map some) b → Ownd ρ' σ' b) (q : RR K (as ++ List.replicate m .un) (L2.start N vs) H ρ' σ' G' H' r w) :
    RR K as (vs.map some) H (lent as ρ') (vs.map some) G' H' r w := by
  cases r with
  | v d => exact q
  | o d =>
    obtain ⟨p, e, g, o, n, f⟩ := q
    exact ⟨p, e, g, o, fun z => n (ow p z), f.imp id own_begin⟩
  | un => exact False.elim q
  | io _ _ => exact False.elim q
end
theorem run_len {n m : Nat} {g : Es} : ∀ as, run n m g as ≠ .st → as.length = n := fun as h => by
  unfold run at h
  by_cases e : as.length = n
  · exact e
  · rw [if_neg e] at h; exact absurd rfl h
section
variable {P : Program} {w : World} {K : PySem.W.Frag} {mg : Str → Option Value} {base : Heap}
theorem def_ok {Z : Exn → Value → Option Addr → Hp → Prop} {x qual : Str} {st : Stmt} {f : Addr} {fd : FuncData} {N ps : List Str} {k n m : Nat} {g : Es} (F : Fun K x qual st f fd) (S : FnScope N ps (defScope st)) (hn : ps.length = n) (hm : N.length = n + m)
    (hb : ∀ (cdv : Value) (A : Around) (outer : List PySem.Env) (s : Shared) (H : Hp) (E : XK), Room k (A.deeper (envOfC qual (defScope st) s.heap.objs.size f cdv)) →
      PSs (cxOf (L2.CX P w) P w K mg base N qual (defScope st) f cdv A outer s H E) (defBody st) (tS K ⟨Z, fun cls d _ H' => E cls d H'⟩ g)) : FnOk P w K mg base (L2.CX P w) (k + 1) f fd ps (spD K Z n (run n m g)) := by
  refine F.okX S (fun vs H Q E h => h.1.trans hn.symm) fun cdv A outer s H vs Q E hr h => ⟨_, hb cdv A outer s H E hr, ?_⟩
  obtain ⟨hl, π, as, G, SA, k⟩ := h
  have hl2 : as.length = n := by rw [SA.len, List.length_map]; exact hl
  refine ⟨π, as ++ List.replicate m .un, G, SA.begin (by rw [hm, hl2]), ?_⟩
  unfold run at k
  rw [if_pos hl2] at k
  cases z : g (as ++ List.replicate m .un) with
  | st => rw [z] at k; exact False.elim k
  | rz xx ρ' =>
    rw [z] at k
    intro cls d σ' G' H' s1 e1 S1 hz
    obtain ⟨S2, e2, _⟩ := SA.ends s1 e1 S1
    exact k cls d G' H' s1 e2 S2 hz
  | ok fl ρ' =>
    rw [z] at k
    cases fl with
    | nx =>
      intro σ' G' H' s1 e1 S1
      obtain ⟨S2, e2, _⟩ := SA.ends s1 e1 S1
      exact k G' H' s1 e2 S2 _ .non
    | brk => exact False.elim k
    | cnt => exact False.elim k
    | ret r =>
      intro w' σ' G' H' s1 e1 S1 q
      obtain ⟨S2, e2, ow⟩ := SA.ends s1 e1 S1
      exact k G' H' s1 e2 S2 _ (q.ends ow)
end
end NV
namespace NV
open PySem PySem.Spec PyProof.Rows L2
/-- a callee's start, the first argument lent -/
theorem SE.argsX {K : PySem.W.Frag} {G H : Hp} (sub : Same G H) {ds : List D} {vs : List V} (r : Reps K G vs ds) {p : Addr} {d : D} (g : G p = none) (o : Own K G H p d) : SE K (fun _ => p) (.io 0 d :: ds.map Sl.v) G (some (.ref p) :: vs.map some) H := by
  have S := SE.args sub r (fun _ => p)
  refine ⟨sub, by rw [List.length_cons, List.length_cons, S.len], fun i s h => ?_, fun i j b s t h1 h2 o1 o2 q1 q2 => ?_⟩
  · cases i with
    | zero =>
      have e : Sl.io 0 d = s := by simpa using h
      subst e
      exact ⟨rfl, g, o⟩
    | succ i =>
      have k := S.ok i s (by simpa using h)
      cases s with
      | un => trivial
      | v d => obtain ⟨w, e, r⟩ := k; exact ⟨w, by simpa using e, r⟩
      | o d => obtain ⟨q, e, g, r⟩ := k; exact ⟨q, by simpa using e, g, r⟩
      | io j d => obtain ⟨e, g, r⟩ := k; exact ⟨by simpa using e, g, r⟩
  · have z : ∀ {i : Nat} {s : Sl}, (Sl.io 0 d :: ds.map Sl.v)[i]? = some s → s.owned = true → i = 0 := fun {i s} h o => by
      cases i with
      | zero => rfl
      | succ i =>
        obtain ⟨d, _, rfl⟩ := vget (i := i) (s := s) (by simpa using h)
        cases o
    rw [z h1 o1, z h2 o2]
theorem ownX {ds : List D} {d : D} {τ : St} {p b : Addr} (h : Ownd (.io 0 d :: ds.map Sl.v) (some (.ref p) :: τ) b) : b = p := by
  obtain ⟨i, s, h1, o, h2⟩ := h
  cases i with
  | zero =>
    have e : V.ref p = V.ref b := by simpa using h2
    exact (V.ref.inj e).symm
  | succ i =>
    obtain ⟨d, _, rfl⟩ := vget (i := i) (s := s) (by simpa using h1)
    cases o
section
variable {X : Cx} {c : Lv} {e : Expr} {es : List Expr} {fs : Ea} {pos p p2 : Pos} {x y : Str} {s : Df} {n k : Nat} {f : Addr} {fd : FuncData} {ps : List Str}
theorem ro_callD (i : Nat) (F : FnOk X.prog X.w X.K X.mg X.base (L2.CX X.prog X.w) k f fd ps (spD X.K c.Z n s)) (hn : ∀ as, s as ≠ .st → as.length = n) (hr : Room k X.A) (hg : Gl X x) (hm : X.mg x = some (.ref f)) (hk : PySem.W.keepIn X.K (.ref f) = true) (hb : Binds X.K fd ps []) (tk : Takes X c.W)
    (hN : X.N[i]? = some y) (hv : Vis X.env.scope y) (ha : PA X es (tA X.K c fs)) (hd : (y == ("__debug__" : Str)) = false := by decide) (hcd : (y == ("__classdict__" : Str)) = false := by decide)
    (hdb : (x == ("__debug__" : Str)) = false := by decide) (hs : starEach (.Name y p2 :: es) X.env = (false, eval (.Name y p2) X.env) :: starEach es X.env := by rfl) (hpl : (backTo pos (starEach es X.env)).any (·.1) = false := by rfl) :
    PE X (.Call (.Name x p) (.Name y p2 :: es) [] pos) (tO X.K c (eCallD s i fs)) := PE_imp (pe_callS F hr hg hm hk hb (fun σ => passAt tk σ) (pa_cons (pe_var hN hv hd hcd) ha hs) hdb hs hpl) fun σ H Q q => by
  obtain ⟨π, ρ, G, S, k⟩ := q
  unfold eCallD at k
  cases hh : held ρ i with
  | none => rw [hh, if_pos (by rfl)] at k; exact False.elim k
  | some d0 =>
  rw [hh, if_neg (by exact fun z => by cases z)] at k
  have hx : ∃ pp, σ[i]? = some (some (.ref pp)) := by
    unfold held at hh
    cases e1 : ρ[i]? with
    | none => rw [e1] at hh; cases hh
    | some t =>
      rw [e1] at hh
      have k1 := S.ok i t e1
      cases t with
      | o d => obtain ⟨q, a1, _⟩ := k1; exact ⟨q, a1⟩
      | io j d => exact ⟨_, k1.1⟩
      | un => cases hh
      | v d => cases hh
  obtain ⟨pp, hp⟩ := hx
  refine ⟨.ref pp, hp, π, ρ, G, S, (Po.bind k).mono fun ds ρ1 G1 H1 s1 e1 S1 k1 vs r => ?_⟩
  cases e2 : ρ1[i]? with
  | none => simp only [e2] at k1; exact False.elim k1
  | some t =>
  have kk := S1.ok i t e2
  have main : ∀ d, (t = .o d ∨ ∃ j, t = .io j d) → G1 pp = none → Own X.K G1 H1 pp d → Po X.K c π ρ1 G1 σ H1 (match s (.io 0 d :: ds.map .v) with
      | .ok r (.io _ e :: _) => .ok r (ρ1.set i (t.setD e))
      | .rz x (.io _ e :: _) => .rz x (ρ1.set i (t.setD e))
      | _ => .st) (fun r ρ' G' H' => ∀ w, RR X.K ρ σ H ρ' σ G' H' r w → Q w H') → spD X.K c.Z n s (.ref pp :: vs) H1 Q (WE c.W σ) := by
    intro d ht g1 o1 k2
    have SC := SE.argsX S1.sub r g1 o1
    have hlen : s (.io 0 d :: ds.map .v) ≠ .st → (V.ref pp :: vs).length = n := fun z => by
      have := hn _ z
      rw [List.length_cons, List.length_map] at this
      rw [List.length_cons, r.length, this]
    have ho : t.owned = true := by rcases ht with rfl | ⟨_, rfl⟩ <;> rfl
    cases z : s (.io 0 d :: ds.map Sl.v) with
    | st => simp only [z] at k2; exact False.elim k2
    | ok rr as' =>
      simp only [z] at k2
      refine ⟨hlen (by rw [z]; exact fun q => by cases q), _, _, G1, SC, ?_⟩
      rw [z]
      intro G' H' s' e' S' w q
      cases as' with
      | nil => exact False.elim k2
      | cons a0 as' =>
      cases a0 with
      | io j d' =>
        have k0 := S'.ok 0 _ rfl
        obtain ⟨S2, e3⟩ := S1.lentX e2 ht hp s' S'.sub (fun b o hb hb1 => by
          obtain ⟨a1, _, a3⟩ := e' b o hb1 fun z => hb (ownX z)
          exact ⟨a1, a3⟩) k0.2.1 k0.2.2
        refine k2 G' H' s' e3 S2 w ?_
        cases rr with
        | v d => exact q
        | o dd =>
          obtain ⟨p', rfl, q1, q2, q3, q4⟩ := q
          have hne : p' ≠ pp := fun z => q3 ⟨0, _, rfl, rfl, by rw [z]; rfl⟩
          have h1 : H1 p' = none := q4.resolve_right fun z => hne (ownX z)
          refine ⟨p', rfl, q1, q2, fun ⟨j', u, a1, a2, a3⟩ => ?_, ?_⟩
          · have : Ownd ρ1 σ p' := by
              rcases getset a1 with ⟨rfl, _, rfl⟩ | ⟨_, a1⟩
              · exact ⟨_, t, e2, ho, a3⟩
              · exact ⟨j', u, a1, a2, a3⟩
            obtain ⟨_, o, ho⟩ := S1.own this
            rw [h1] at ho; cases ho
          · cases zz : H p' with
            | none => exact .inl rfl
            | some o =>
              by_cases m : Ownd ρ σ p'
              · exact .inr m
              · have := (e1 p' o zz m).1
                rw [h1] at this; cases this
        | un => exact False.elim q
        | io _ _ => exact False.elim q
      | un => exact False.elim k2
      | v _ => exact False.elim k2
      | o _ => exact False.elim k2
    | rz xx as' =>
      simp only [z] at k2
      refine ⟨hlen (by rw [z]; exact fun q => by cases q), _, _, G1, SC, ?_⟩
      rw [z]
      intro cls dx G' H' s' e' S' hz
      cases as' with
      | nil => exact False.elim k2
      | cons a0 as' =>
      cases a0 with
      | io j d' =>
        have k0 := S'.ok 0 _ rfl
        obtain ⟨S2, e3⟩ := S1.lentX e2 ht hp s' S'.sub (fun b o hb hb1 => by
          obtain ⟨a1, _, a3⟩ := e' b o hb1 fun z => hb (ownX z)
          exact ⟨a1, a3⟩) k0.2.1 k0.2.2
        exact k2 cls dx G' H' s' e3 S2 hz
      | un => exact False.elim k2
      | v _ => exact False.elim k2
      | o _ => exact False.elim k2
  cases t with
  | o d =>
    obtain ⟨q, a1, g1, o1⟩ := kk
    rw [hp] at a1
    cases a1
    simp only [e2] at k1
    exact main d (.inl rfl) g1 o1 k1
  | io j d =>
    obtain ⟨a1, g1, o1⟩ := kk
    rw [hp] at a1
    have e3 : π j = pp := (V.ref.inj (Option.some.inj (Option.some.inj a1))).symm
    rw [e3] at g1 o1
    simp only [e2] at k1
    exact main d (.inr ⟨j, rfl⟩) g1 o1 k1
  | un => simp only [e2] at k1; exact False.elim k1
  | v d => simp only [e2] at k1; exact False.elim k1
end
end NV

set_option Elab.async false
set_option linter.all false
set_option maxRecDepth 100000
set_option maxHeartbeats 4000000
/-! Lay14: isinstance, {}, a, b = x, y; short words for the printed proofs. -/
namespace NV
open PySem PySem.Spec PyProof.Rows L2
def tyN : Nat → String
  | 0 => "str"
  | 1 => "int"
  | 2 => "bool"
  | 3 => "list"
  | _ => "tuple"
theorem kit_tab {K : PySem.W.Frag} {a : String} {t : Nat} {r : Bool} (h : kitB a (tyN t) = some r) : PySem.W.kitOne K (.type a) (.type (tyN t)) = some r := kit_ty h
theorem ty_scr {K : PySem.W.Frag} {H : Hp} {a : Addr} {xs : List V} (h : SqT K H a xs) : TyX K H (.ref a) (.type "tuple") := by
  rcases h with (h | ⟨o, h⟩) | h
  · exact .base (.tup h)
  · exact .fTuple h
  · obtain ⟨o, _, _, h1, h2, _⟩ := h
    exact .kTuple h1 h2
section
variable {X : Cx} {c : Lv} {e : Expr} {f : Ev} {fs : Ea} {pos p p2 : Pos} {x : Str}
theorem cd_isi (t : Nat) (ht : t < 5) {G H : Hp} {v : V} {a d : D} {Q : VK} (s : Same G H) (r : Rep X.K G v a) (q : opIsI t a = some d) (h : Fin X.K G H Q d) : rIsi X.K [v, .ty (tyN t)] H Q := by
  cases r with
  | non =>
    obtain rfl := Option.some.inj q
    refine ⟨_, _, _, _, _, rfl, .ty _, .base .non, kit_tab ?_, h.bl s⟩
    match t, ht with
    | 0, _ => decide +kernel
    | 1, _ => decide +kernel
    | 2, _ => decide +kernel
    | 3, _ => decide +kernel
    | 4, _ => decide +kernel
  | bl b =>
    obtain rfl := Option.some.inj q
    refine ⟨_, _, _, _, _, rfl, .ty _, .base (.bl b), kit_tab ?_, h.bl s⟩
    match t, ht with
    | 0, _ => decide +kernel
    | 1, _ => decide +kernel
    | 2, _ => decide +kernel
    | 3, _ => decide +kernel
    | 4, _ => decide +kernel
  | int b =>
    obtain rfl := Option.some.inj q
    refine ⟨_, _, _, _, _, rfl, .ty _, .base (.int b), kit_tab ?_, h.bl s⟩
    match t, ht with
    | 0, _ => decide +kernel
    | 1, _ => decide +kernel
    | 2, _ => decide +kernel
    | 3, _ => decide +kernel
    | 4, _ => decide +kernel
  | str b =>
    obtain rfl := Option.some.inj q
    refine ⟨_, _, _, _, _, rfl, .ty _, .base (.str _), kit_tab ?_, h.bl s⟩
    match t, ht with
    | 0, _ => decide +kernel
    | 1, _ => decide +kernel
    | 2, _ => decide +kernel
    | 3, _ => decide +kernel
    | 4, _ => decide +kernel
  | tup h1 _ =>
    obtain rfl := Option.some.inj q
    refine ⟨_, _, _, _, _, rfl, .ty _, ty_scr (Same.tupS s h1), kit_tab ?_, h.bl s⟩
    match t, ht with
    | 0, _ => decide +kernel
    | 1, _ => decide +kernel
    | 2, _ => decide +kernel
    | 3, _ => decide +kernel
    | 4, _ => decide +kernel
  | lst h1 _ =>
    obtain rfl := Option.some.inj q
    refine ⟨_, _, _, _, _, rfl, .ty _, .base (.lst (s _ _ h1)), kit_tab ?_, h.bl s⟩
    match t, ht with
    | 0, _ => decide +kernel
    | 1, _ => decide +kernel
    | 2, _ => decide +kernel
    | 3, _ => decide +kernel
    | 4, _ => decide +kernel
  | scr _ _ => cases q
  | exc _ _ _ _ => cases q
  | dct h1 _ =>
    obtain rfl := Option.some.inj q
    refine ⟨_, _, _, _, _, rfl, .ty _, .base (.dK (s _ _ h1)), kit_tab ?_, h.bl s⟩
    match t, ht with
    | 0, _ => decide +kernel
    | 1, _ => decide +kernel
    | 2, _ => decide +kernel
    | 3, _ => decide +kernel
    | 4, _ => decide +kernel
theorem re_isI (t : Nat) {T : Str} (hg : Gl X "isinstance") (hm : X.mg "isinstance" = none) (gT : Gl X T) (mT : X.mg T = none) (ha : PE X e (tE X.K c f)) (ht : t < 5 := by decide) (hT : bootBuiltins T = some (.type (tyN t)) := by rfl) (hdT : (T == ("__debug__" : Str)) = false := by decide)
    (nT : T ≠ "__name__" := by decide)
    (he : starEach [e, .Name T p2] X.env = (false, eval e X.env) :: starEach [.Name T p2] X.env := by rfl) (he2 : starEach [.Name T p2] X.env = (false, eval (.Name T p2) X.env) :: starEach [] X.env := by rfl) (hpl : (backTo pos (starEach [.Name T p2] X.env)).any (·.1) = false := by rfl) :
    PE X (.Call (.Name "isinstance" p) [e, .Name T p2] [] pos) (tE X.K c (e1 (opIsI t) f)) := by
  refine PE_imp (pe_callB call_isi hg hm rfl (pa_cons ha (pa_cons (pe_bltn (v := .ty (tyN t)) gT mT hT rfl nT hdT) pa_nil he2) he) (by decide) (by decide) he hpl) fun σ H Q q => ?_
  obtain ⟨π, ρ, G, S, k⟩ := q
  refine ⟨π, ρ, G, S, (Po.bind k).mono fun d1 ρ1 G1 H1 s1 e1' S1 k1 w1 r1 => ?_⟩
  obtain ⟨d, hd⟩ := some_of k1
  exact cd_isi t ht S1.sub r1 hd (fin_of S1 hd k1)
theorem re_dct0 : PE X (.Dict [] [] pos) (tE X.K c eDct0) := PE_imp pe_dnewK fun σ H Q q => by
  obtain ⟨π, ρ, G, S, k⟩ := q
  intro p n
  have g := Grow.tr (o := .dK []) S.sub n
  exact (Po.grow k S g) _ (.dct upd_same .nil)
theorem rs_par (i j : Nat) {x y : Str} {a b : Expr} {px py pt : Pos} {kt k2 pt2} (hc : X.calm = true) (hN : X.N.Nodup) (hi : X.N[i]? = some x) (hj : X.N[j]? = some y) (hij : i ≠ j)
    (hx : X.env.scope.names.lookup x = some .local) (hy : X.env.scope.names.lookup y = some .local) (ha : PA X [a, b] (tA X.K c fs))
    (hw : swappedStores [.Tuple [.Name x px, .Name y py] kt pt] (.Tuple [a, b] k2 pt2) X.env = pure (some [x, y]))
    (hs : swapsWithSole [.Tuple [.Name x px, .Name y py] kt pt] (.Tuple [a, b] k2 pt2) pos.line X.env = pure false := by rfl) :
    PS X (.Assign [.Tuple [.Name x px, .Name y py] kt pt] (.Tuple [a, b] k2 pt2) pos) (tS X.K c (sPar i j fs)) := PS_imp (ps_par hc hN hi hj hij hx hy ha hw hs) fun D σ H q => by
  obtain ⟨π, ρ, G, S, k⟩ := q
  refine ⟨π, ρ, G, S, (PoS.bind k).mono fun ds ρ1 G1 H1 _ _ S1 k1 ws r => ?_⟩
  match ds, k1, r with
  | [a, b], k1, r =>
    cases r with
    | cons ra r =>
      cases r with
      | cons rb r =>
        cases r
        refine ⟨_, _, rfl, ?_⟩
        obtain ⟨S2, e2⟩ := S1.set ra i
        obtain ⟨S3, e3⟩ := S2.set rb j
        exact k1 _ G1 H1 (Same.refl _) (e2.trans e3) S3
  | [], k1, r => exact False.elim k1
  | [_], k1, r => exact False.elim k1
  | _ :: _ :: _ :: _, k1, r => exact False.elim k1
end
end NV

set_option Elab.async false
set_option linter.all false
set_option maxRecDepth 100000
set_option maxHeartbeats 4000000
/-! Lay15: fresh lists that stay the def's own; short words. -/
namespace NV
open PySem PySem.Spec PyProof.Rows L2
theorem Res.bind_bind {α β γ : Type} (r : Res α) (f : α → Env → Res β) (g : β → Env → Res γ) : (r.bind f).bind g = r.bind fun a ρ => (f a ρ).bind g := by cases r <;> rfl
section
variable {X : Cx} {c : Lv} {a b e : Expr} {es : List Expr} {f h : Ev} {r : Ea} {pos p p2 : Pos} {x : Str}
theorem own_new {K : PySem.W.Frag} {π : Nat → Addr} {ρ ρ1 : Env} {G G1 H H1 : Hp} {σ : St} {Q : VK} {ds : List D} {ws : List V} (S1 : SE K π ρ1 G1 σ H1) (e1 : Ext ρ σ G H ρ1 σ G1 H1)
    (k1 : Po K c π ρ1 G1 σ H1 (.ok (.o (.lst ds)) ρ1) fun r ρ' G' H' => ∀ w, RR K ρ σ H ρ' σ G' H' r w → Q w H') (rs : Reps K G1 ws ds) : ∀ p, H1 p = none → Q (.ref p) (upd H1 p (.lst ws)) := fun p n => by
  have g := Grow.apart (o := .lst ws) S1.sub n
  refine Po.grow k1 S1 g _ ⟨p, rfl, ?_, ⟨ws, upd_same, rs⟩, fun z => ?_, ?_⟩
  · cases z : G1 p with
    | none => rfl
    | some o => rw [S1.sub _ _ z] at n; cases n
  · obtain ⟨_, o, ho⟩ := S1.own z
    rw [n] at ho; cases ho
  · cases z : H p with
    | none => exact .inl rfl
    | some o =>
      by_cases m : Ownd ρ σ p
      · exact .inr m
      · have := (e1 p o z m).1
        rw [n] at this; cases this
theorem ro_lst (hr : PA X es (tA X.K c r)) : PE X (.List es pos) (tO X.K c (own (eLst r))) := by
  refine PE_imp (pe_lst hr) fun σ H Q q => ?_
  obtain ⟨π, ρ, G, S, k⟩ := q
  unfold own eLst at k
  rw [Res.bind_bind] at k
  refine ⟨π, ρ, G, S, (Po.bind k).mono fun d1 ρ1 G1 H1 _ e1 S1 k1 w1 r1 => ?_⟩
  split at k1
  · rename_i hl
    exact ⟨by rw [r1.length, ← line_eq]; exact hl, own_new S1 e1 k1 r1⟩
  · exact False.elim k1
theorem ro_mul (ha : PE X a (tE X.K c f)) (hb : PE X b (tE X.K c h)) : PE X (.BinOp a .Mult b pos) (tO X.K c (own (e2 opRep f h))) := by
  refine PE_imp (pe_op opr_U ha hb) fun σ H Q q => ?_
  obtain ⟨π, ρ, G, S, k⟩ := q
  unfold own e2 at k
  rw [Res.bind_bind] at k
  refine ⟨π, ρ, G, S, (Po.bind k).mono fun d1 ρ1 G1 H1 _ e1 S1 k1 w1 r1 => ?_⟩
  rw [Res.bind_bind] at k1
  refine ⟨π, ρ1, G1, S1, (Po.bind k1).mono fun d2 ρ2 G2 H2 s2 e2 S2 k2 w2 r2 => ?_⟩
  cases d1 <;> cases d2 <;> first | exact False.elim k2 | skip
  cases r1 with
  | lst h1 r1 =>
    cases r2
    simp only [opRep, opMul] at k2
    split at k2
    · rename_i hm
      refine rU2_of op_rep ⟨_, _, _, rfl, rfl, S2.sub _ _ (s2 _ _ h1), (by have := hm.1; omega), (by have := hm.2.1; omega), ?_, own_new S2 (e1.trans e2) k2 ?_⟩
      · rw [r1.length, ← line_eq]; exact hm.2.2
      · have r1 := Reps.mono s2 _ _ r1
        clear hm k2
        generalize Int.toNat _ = n
        induction n with
        | zero => exact .nil
        | succ n ih =>
          rw [List.replicate_succ, List.replicate_succ, List.flatten_cons, List.flatten_cons]
          exact r1.append ih
    · exact False.elim k2
theorem ro_frz (i : Nat) {f : Eo} (h : PE X e (tO X.K c f)) : PE X e (tO X.K c (oFrz i f)) := PE_imp h fun _ _ _ q => by
  obtain ⟨π, ρ, G, S, k⟩ := q
  obtain ⟨GF, s1, S1, e1⟩ := S.frz1 i
  exact ⟨π, _, GF, S1, (Po.step s1 e1 k).mono fun r ρ' G' H' _ _ _ j w q => j w (q.back e1)⟩
theorem ro_add (ha : PE X a (tE X.K c f)) (hb : PE X b (tE X.K c h)) : PE X (.BinOp a .Add b pos) (tO X.K c (own (e2 opCat f h))) := by
  refine PE_imp (pe_op opr_U ha hb) fun σ H Q q => ?_
  obtain ⟨π, ρ, G, S, k⟩ := q
  unfold own e2 at k
  rw [Res.bind_bind] at k
  refine ⟨π, ρ, G, S, (Po.bind k).mono fun d1 ρ1 G1 H1 _ e1 S1 k1 w1 r1 => ?_⟩
  rw [Res.bind_bind] at k1
  refine ⟨π, ρ1, G1, S1, (Po.bind k1).mono fun d2 ρ2 G2 H2 s2 e2 S2 k2 w2 r2 => ?_⟩
  cases r1 <;> first | exact False.elim k2 | skip
  rename_i h1 r1
  cases r2 <;> first | exact False.elim k2 | skip
  rename_i h2 r2
  simp only [opCat, opAdd] at k2
  split at k2
  · rename_i hm
    refine rU2_of op_cat ⟨_, _, _, _, rfl, rfl, S2.sub _ _ (s2 _ _ h1), S2.sub _ _ h2, ?_, own_new S2 (e1.trans e2) k2 ((Reps.mono s2 _ _ r1).append r2)⟩
    rw [r1.length, r2.length, ← line_eq]; exact hm
  · exact False.elim k2
theorem ro_cut {lo hi : Option Expr} {l1 h1 : Option Ev} (ha : PE X a (tE X.K c f)) (hl : L2.PO X lo (tP X.K c l1)) (hh : L2.PO X hi (tP X.K c h1)) : PE X (.Subscript a (.Slice lo hi none p2) pos) (tO X.K c (own (eCutL f l1 h1))) := by
  refine PE_imp (pe_slice slr_U ha hl hh) fun σ H Q q => ?_
  obtain ⟨π, ρ, G, S, k⟩ := q
  unfold own eCutL at k
  rw [Res.bind_bind] at k
  refine ⟨π, ρ, G, S, (Po.bind k).mono fun d1 ρ1 G1 H1 _ e1 S1 k1 w1 r1 => ?_⟩
  rw [Res.bind_bind] at k1
  refine ⟨π, ρ1, G1, S1, (Po.bind k1).mono fun o2 ρ2 G2 H2 s2 e2 S2 k2 => ?_⟩
  rw [Res.bind_bind] at k2
  refine ⟨π, ρ2, G2, S2, (Po.bind k2).mono fun o3 ρ3 G3 H3 s3 e3 S3 k3 => ?_⟩
  cases r1 <;> first | exact False.elim k3 | skip
  · rename_i q1 q2
    exact rUS_of sl_list ⟨_, _, rfl, SqL.of (S3.sub _ _ (s3 _ _ (s2 _ _ q1))), own_new S3 ((e1.trans e2).trans e3) k3 ((Reps.mono s3 _ _ (Reps.mono s2 _ _ q2)).cut _ _)⟩
  · rename_i q1 q2
    exact rUS_of sl_list ⟨_, _, rfl, S3.sub.seq (s3.seq (s2.seq q1)), own_new S3 ((e1.trans e2).trans e3) k3 ((Reps.mono s3 _ _ (Reps.mono s2 _ _ q2)).cut _ _)⟩
theorem ro_list (hg : Gl X "list") (hm : X.mg "list" = none) (ha : PE X a (tE X.K c f)) (hs : starEach [a] X.env = (false, eval a X.env) :: starEach [] X.env := by rfl) : PE X (.Call (.Name "list" p) [a] [] pos) (tO X.K c (own (e1 opList f))) := by
  refine PE_imp (pe_callTy (T := "list") callr_U hg hm rfl (pa_cons ha pa_nil hs) (by decide) (by decide) hs rfl) fun σ H Q q => ?_
  obtain ⟨π, ρ, G, S, k⟩ := q
  unfold own e1 at k
  rw [Res.bind_bind] at k
  refine ⟨π, ρ, G, S, (Po.bind k).mono fun d1 ρ1 G1 H1 _ e1 S1 k1 w1 r1 => ?_⟩
  cases r1 with
  | lst h1 h2 => exact rUC_of call_list_of ⟨_, _, rfl, .inl (SqL.of (S1.sub _ _ h1)), own_new S1 e1 k1 h2⟩
  | scr h1 h2 => exact rUC_of call_list_of ⟨_, _, rfl, .inl (S1.sub.seq h1), own_new S1 e1 k1 h2⟩
  | tup h1 h2 => exact rUC_of call_list_of ⟨_, _, rfl, .inr (Same.tupS S1.sub h1), own_new S1 e1 k1 h2⟩
  | _ => exact False.elim k1
end
end NV

set_option Elab.async false
set_option linter.all false
set_option maxRecDepth 100000
set_option maxHeartbeats 4000000
/-! Lay16: short words for the printed proofs; the law's end. -/
namespace NV
open PySem PySem.Spec PyProof.Rows L2
/-- no exception is looked at -/
def Z0 : Exn → Value → Option Addr → Hp → Prop := fun _ _ _ _ => False
section
variable {X : Cx} {c : Lv} {a b e : Expr} {es : List Expr} {f h : Ev} {r : Ea} {pos p p2 : Pos} {x : Str}
theorem gV (i : Nat) (hN : X.N[i]? = some x := by rfl) (hv : Vis X.env.scope x := by first | exact Or.inl rfl | exact Or.inr (Or.inl rfl) | exact Or.inr (Or.inr rfl)) (hd : (x == ("__debug__" : Str)) = false := by decide) (hcd : (x == ("__classdict__" : Str)) = false := by decide) : PE X (.Name x pos) (tE X.K c (eV i)) := re_V i hN hv hd hcd
theorem gS {z : Str} (s : List Nat) {j : Nat} (hz : z = ofL s := by rfl) : PE X (.Constant (.str z) j pos) (tE X.K c (eC (.str s))) := re_str hz
theorem gG {d : D} {v : V} (hg : Gl X x) (h : ∃ u, X.mg x = some u ∧ RelV v u) (hr : ∀ G, Rep X.K G v d := by intro _; first | exact .str _ | exact .int _) (hd : (x == ("__debug__" : Str)) = false := by decide) : PE X (.Name x pos) (tE X.K c (eC d)) := by
  obtain ⟨u, hm, rv⟩ := h
  exact re_glob hg hm rv hr hd
end
/-- no promise at all -/
theorem fn_st {P : Program} {w : World} {K : PySem.W.Frag} {mg : Str → Option Value} {base : Heap} {CX : CXT} {k n : Nat} {f : Addr} {fd : FuncData} {ps : List Str} {Z : Exn → Value → Option Addr → Hp → Prop} (hn : ps.length = n) : FnOk P w K mg base CX k f fd ps (spD K Z n fun _ => .st) :=
  ⟨fun vs H Q E h => h.1.trans hn.symm, fun A outer s H args us vs Q E _ _ _ _ h => by
    obtain ⟨_, _, _, _, _, z⟩ := h
    exact False.elim z⟩
theorem law_start {K : PySem.W.Frag} {H : Hp} {a : Addr} {ns : List Int} (hS : SqL K H a (ns.map V.int)) : SE K (fun _ => 0) [.v (.scr (ns.map D.int))] H ([V.ref a].map some) H := by
  refine ⟨Same.refl _, rfl, fun i s h => ?_, fun i j b s t h1 h2 o1 o2 q1 q2 => ?_⟩
  · cases i with
    | zero =>
      have e : Sl.v (.scr (ns.map D.int)) = s := by simpa using h
      subst e
      refine ⟨.ref a, rfl, .scr hS ?_⟩
      clear hS h
      induction ns with
      | nil => exact .nil
      | cons n r ih => exact .cons (.int n) ih
    | succ i => simp at h
  · cases i with
    | zero =>
      have e : Sl.v (.scr (ns.map D.int)) = s := by simpa using h1
      subst e
      cases o1
    | succ i => simp at h1
/-- the law's promise, from its semantics' answer -/
theorem law_sp {K : PySem.W.Frag} {Z : Exn → Value → Option Addr → Hp → Prop} {s : Df} {H : Hp} {a : Addr} {ns : List Int} {as : Env} (hS : SqL K H a (ns.map V.int)) (h : s [.v (.scr (ns.map D.int))] = .ok (.v (.bl true)) as) :
    spD K Z 1 s [.ref a] H (fun v _ => v = .bl true) fun _ _ _ => False := by
  refine ⟨rfl, _, _, H, law_start hS, ?_⟩
  rw [h]
  intro G' H' s1 e1 S1 w q
  exact (Rep.bl_iff (show Rep K G' w (.bl true) from q))
end NV

set_option Elab.async false
set_option linter.all false
set_option maxRecDepth 100000
set_option maxHeartbeats 4000000
/-! Lay17: a text turned about. -/
namespace NV
open PySem PySem.Spec PyProof.Rows L2
theorem rev_pick (z : Str) : ((Builtin.Str.strSliceIndices none none (-1) z.length).filterMap (z.cps[·]?)) = z.cps.toList.reverse := by
  show ((sliceRange ((z.cps.size : Int) - 1) (-1) (-1)).filterMap (z.cps[·]?)) = _
  rw [PySem.W.krv_sliceRange, PySem.W.krv_range, List.filterMap_reverse]
  congr 1
  exact PySem.W.krv_all z.cps
def tRevS (te : TE) : TE := fun σ H Q => te σ H fun x H1 => ∃ z : Str, x = .str z ∧ z.length ≤ sizeLine ∧ Q (.str ⟨z.cps.toList.reverse.toArray⟩) H1
theorem pe_revS {X : Cx} {e : Expr} {te : TE} {k : Nat} {p1 p2 p3 pos : Pos} (he : PE X e te) : PE X (.Subscript e (.Slice none none (some (.UnaryOp .USub (.Constant (.int 1) k p1) p2)) p3) pos) (tRevS te) := by
  refine ⟨fun pins s σ H Q I h => ?_⟩
  refine Subscript_ (thn (he.run pins s σ H _ I h) fun v s1 ⟨x, H1, I1, r1, q1⟩ => ?_)
  obtain ⟨z, ex, hz, q⟩ := q1
  subst ex
  obtain ⟨t, rfl⟩ := r1
  have hst : L2.PO X (some (.UnaryOp .USub (.Constant (.int 1) k p1) p2)) (tPart (tUn (rU fun i => .int (-i)) (tC (.int 1)))) := po_some (pe_un un_neg pe_int)
  refine wpAny_Slice (thn (po_none.run pins s1 σ H1 (fun o H2 => o = none ∧ H2 = H1) I1 ⟨rfl, rfl⟩) fun vl s2 ⟨l, H2, I2, pl, el, e2⟩ => ?_)
  subst el e2
  refine thn (po_none.run pins s2 σ H2 (fun o H3 => o = none ∧ H3 = H2) I2 ⟨rfl, rfl⟩) fun vu s3 ⟨u, H3, I3, pu, eu, e3⟩ => ?_
  subst eu e3
  refine thn (hst.run pins s3 σ H3 (fun o H4 => o = some (-1) ∧ H4 = H3) I3 ⟨1, rfl, -1, rfl, rfl, rfl⟩) fun vs s4 ⟨o, H4, I4, ps, eo, e4⟩ => ?_
  subst eo e4
  have I5 : Inv X pins σ H4 { s4 with heap := s4.heap.push { cls := .type "slice", data := .fields #[vl, vu, vs] } } := I4.kept (t' := s4.toks) fun b ob q => Heap.get?_push_of_some _ q
  show wpAny (model X.prog X.w) X.A (subscriptTail e (.Slice none none (some (.UnaryOp .USub (.Constant (.int 1) k p1) p2)) p3) (.str z t) (.ref s4.heap.objs.size)) (EP X pins σ Q) X.xe { s4 with heap := s4.heap.push { cls := .type "slice", data := .fields #[vl, vu, vs] } }
  refine tail_any (ops := [.str z t, .ref s4.heap.objs.size]) (typeIs_str _ z t) (F.slot_str_getitem.lookup) ?_ (by with_unfolding_all rfl)
  obtain ⟨ql, rfl, hl⟩ := IsPart.raw pl
  obtain ⟨qu, rfl, hu⟩ := IsPart.raw pu
  obtain ⟨qs, rfl, hs⟩ := IsPart.raw ps
  obtain ⟨os, hos, hcs, hds⟩ := Heap.IsSliceOf.new s4.heap (partValue ql) (partValue qu) (partValue qs)
  refine wpAny_getItem_str_slice (l := ql) (u := qu) (st := qs) ⟨os, hos, hcs, hds⟩ (by rw [hs]; rfl) ?_
  unfold sliceMade slicePicked
  rw [hl, hu, hs]
  show Made.post (if ((-1 : Int) == 1 && _) = true then _ else Made.str ⟨((Builtin.Str.strSliceIndices none none (-1) z.length).filterMap (z.cps[·]?)).toArray⟩) _ _
  rw [if_neg (by simp), rev_pick]
  refine ⟨?_, .str _, H4, I5.tok _, ⟨_, rfl⟩, q⟩
  show (z.cps.toList.reverse.toArray).size ≤ sizeLine
  rw [List.size_toArray, List.length_reverse]
  exact hz
section
variable {X : Cx} {c : Lv} {e : Expr} {f : Ev} {pos p1 p2 p3 : Pos}
theorem re_revS {k : Nat} (he : PE X e (tE X.K c f)) : PE X (.Subscript e (.Slice none none (some (.UnaryOp .USub (.Constant (.int 1) k p1) p2)) p3) pos) (tE X.K c (e1 opRevS f)) := PE_imp (pe_revS he) fun σ H Q q => by
  obtain ⟨π, ρ, G, S, k⟩ := q
  refine ⟨π, ρ, G, S, (Po.bind k).mono fun d1 ρ1 G1 H1 s1 e1' S1 k1 w1 r1 => ?_⟩
  cases d1 <;> first | exact False.elim k1 | skip
  rename_i s
  simp only [opRevS] at k1
  split at k1
  · rename_i hl
    cases r1
    refine ⟨ofL s, rfl, by rw [ofL_len, ← line_eq]; exact hl, ?_⟩
    rw [ofL_cps]
    exact k1.now S1 _ (.str s.reverse)
  · exact False.elim k1
end
end NV

set_option Elab.async false
set_option linter.all false
set_option maxRecDepth 100000
set_option maxHeartbeats 4000000
/-! Lay18: a list turned about, fresh. -/
namespace NV
open PySem PySem.Spec PyProof.Rows L2
section
variable {X : Cx} {c : Lv} {e : Expr} {f : Ev} {pos p1 p2 p3 : Pos}
theorem ro_revL {k : Nat} (he : PE X e (tE X.K c f)) : PE X (.Subscript e (.Slice none none (some (.UnaryOp .USub (.Constant (.int 1) k p1) p2)) p3) pos) (tO X.K c (own (e1 opRevL f))) := PE_imp (pe_revL he) fun σ H Q q => by
  obtain ⟨π, ρ, G, S, k⟩ := q
  unfold own e1 at k
  rw [Res.bind_bind] at k
  refine ⟨π, ρ, G, S, (Po.bind k).mono fun d1 ρ1 G1 H1 _ e1 S1 k1 w1 r1 => ?_⟩
  cases r1 with
  | lst h1 h2 => exact ⟨_, _, rfl, SqL.of (S1.sub _ _ h1), own_new S1 e1 k1 h2.reverse⟩
  | scr h1 h2 => exact ⟨_, _, rfl, S1.sub.seq h1, own_new S1 e1 k1 h2.reverse⟩
  | _ => exact False.elim k1
theorem re_revL {k : Nat} (he : PE X e (tE X.K c f)) : PE X (.Subscript e (.Slice none none (some (.UnaryOp .USub (.Constant (.int 1) k p1) p2)) p3) pos) (tE X.K c (e1 opRevL f)) := PE_imp (pe_revL he) fun σ H Q q => by
  obtain ⟨π, ρ, G, S, k⟩ := q
  refine ⟨π, ρ, G, S, (Po.bind k).mono fun d1 ρ1 G1 H1 _ e1 S1 k1 w1 r1 => ?_⟩
  cases r1 with
  | lst h1 h2 => exact ⟨_, _, rfl, SqL.of (S1.sub _ _ h1), Fin.lst S1.sub h2.reverse fun w G' H' g rw' => k1.grow S1 g w rw'⟩
  | scr h1 h2 => exact ⟨_, _, rfl, S1.sub.seq h1, Fin.lst S1.sub h2.reverse fun w G' H' g rw' => k1.grow S1 g w rw'⟩
  | _ => exact False.elim k1
end
end NV

set_option Elab.async false
set_option linter.all false
set_option maxRecDepth 100000
set_option maxHeartbeats 4000000
/-! Lay19: enumerate over a text. -/
namespace NV
open PySem PySem.Spec PyProof.Rows L2
/-- a text, each sign in a new pair -/
def Itse (x : Str) : It :=
  ⟨fun i _ => i < x.cps.size, fun i H v H' => ∃ T c, v = .ref T ∧ H T = none ∧ H' = upd H T (.tup [.int (i : Nat), .str ⟨#[c]⟩]) ∧ x.cps[i]? = some c, fun i _ => x.cps.size ≤ i⟩
theorem turn_enumS {P : Program} {w : World} {K : PySem.W.Frag} {elts : List Expr} {kk : Nat} {tpos : Pos} (x : Str) (t : Tok) (e it : Addr) :
    Turn P w K (.Tuple elts kk tpos) (Itse x) [e, it] e (fun i h => (∃ old, IsEnum h e it ((i : Nat) : Int) old) ∧ (i ≤ x.cps.size ∧ h.IsStrIter it (strIterType x) x t i) ∧ e ≠ it) where
  mem := by simp
  obj := fun i h st b hb => by
    obtain ⟨⟨old, he⟩, ⟨_, o, ho, hc, hd⟩, _⟩ := st
    have e' : b = e ∨ b = it := by simpa using hb
    rcases e' with z | z
    · rw [z]; exact ⟨_, he, fun v q => nomatch q⟩
    · rw [z]; exact ⟨o, ho, fun v q => by rw [hd] at q; cases q⟩
  keep := fun i h h' st k => by
    obtain ⟨⟨old, he⟩, ⟨hl, o, ho, hr⟩, hne⟩ := st
    exact ⟨⟨old, k e (by simp) _ he⟩, ⟨hl, o, k it (by simp) o ho, hr⟩, hne⟩
  item := by
    intro X hP hw hK hc i pins s σ H E I hf st hg
    subst hP hw hK
    obtain ⟨⟨old, he⟩, ⟨_, hit⟩, hne⟩ := st
    have hlt : i < x.cps.size := hg
    have hel : e < s.heap.objs.size := Heap.lt_size he
    have hil : it < s.heap.objs.size := by obtain ⟨_, q, _⟩ := hit; exact Heap.lt_size q
    refine wpAny_pyNext_enum_itemD (Draws.text (A := X.A.in1) (I.ok.hd hc) it x t) he hit hlt hne (by simpa using hne) fun u h' tk hP' ho hit' hT hsz hk => ?_
    obtain ⟨c, tu, hcx, rfl⟩ := hP'
    refine ⟨_, rfl, wpAny_letOwnedTupleGo_enum (s := { s with heap := h', toks := tk + 1 }) ho fun h'' he' sb => ?_⟩
    have hT2 : h''.get? s.heap.objs.size = some { cls := .type "tuple", data := .seq #[.int i tk, .str ⟨#[c]⟩ tu] } := (sb.2 _ (Nat.ne_of_gt hel)).trans hT
    have new : ObjOk X.prog X.w (upd H s.heap.objs.size (.tup [.int (i : Nat), .str ⟨#[c]⟩])) h'' s.heap.objs.size (.tup [.int (i : Nat), .str ⟨#[c]⟩]) :=
      ⟨by show 2 ≤ sizeLine; decide, [.int i tk, .str ⟨#[c]⟩ tu], .cons ⟨_, rfl⟩ (.cons ⟨tu, rfl⟩ .nil), ⟨_, hT2, rfl, _, rfl⟩⟩
    have I1 : Inv X pins σ (upd H s.heap.objs.size (.tup [.int (i : Nat), .str ⟨#[c]⟩])) { s with heap := h'', toks := tk + 1 } :=
      I.turnedNew (ch := [e, it]) (fun b ob hb q => (sb.2 b (fun z => hb (by simp [z]))).trans (hk b ob (fun z => hb (by simp [z])) (fun z => hb (by simp [z])) q)) hf (Nat.le_refl _) new
    refine ⟨.ref s.heap.objs.size, _, I1, rfl, ⟨_, c, rfl, I.hok.fresh (Nat.le_refl _), rfl, hcx⟩, ⟨⟨.str ⟨#[c]⟩ tu, ?_⟩, ⟨hlt, ?_⟩, hne⟩, fun b hb => ?_⟩
    · have e1 : ((i + 1 : Nat) : Int) = (i : Int) + 1 := by omega
      rw [e1]; exact he'
    · obtain ⟨o, ho, hr⟩ := hit'
      exact ⟨o, (sb.2 it (Ne.symm hne)).trans ho, hr⟩
    · have hb' : b < s.heap.objs.size := by
        have e' : b = e ∨ b = it := by simpa using hb
        rcases e' with z | z
        · rw [z]; exact hel
        · rw [z]; exact hil
      rw [upd_ne (Nat.ne_of_lt hb')]
      exact (hf b hb).1
  done := by
    intro X hP hw hK hc i pins s σ H E I hf st hg
    subst hP hw hK
    obtain ⟨⟨old, he⟩, ⟨hl, hit⟩, hne⟩ := st
    have hge : x.cps.size ≤ i := hg
    have ei : i = x.cps.size := by omega
    subst ei
    obtain ⟨f0, f1, f2, f3, f4, f5⟩ := hf it (by simp)
    exact wpAny_pyNext_enum_endD (Draws.text (A := X.A.in1) (I.ok.hd hc) it x t) he hit fun h' eb => ⟨rfl, I.turned (t' := s.toks) (fun b o hb q => eb b o hb q) f0 f1 f3 f4 f5⟩
  self := fun A i s Q E st h => let ⟨⟨_, he⟩, _⟩ := st; wpAny_pyIter_enum he h
def iEnumS (ta : TA) : TI := fun σ H R => ta σ H fun vs H1 => ∃ x, vs = [.str x] ∧ R (Itse x) H1
theorem pi_enumS {X : Cx} {e : Expr} {ta : TA} {p pos tpos : Pos} {elts : List Expr} {kk : Nat} (hg : Gl X "enumerate") (hm : X.mg "enumerate" = none) (ha : PA X [e] ta) (hs : starEach [e] X.env = [(false, eval e X.env)] := by rfl) :
    PI X (.Tuple elts kk tpos) (.Call (.Name "enumerate" p) [e] [] pos) (iEnumS ta) := by
  refine ⟨fun pins s σ H R I h => ?_⟩
  refine Call_ (ld_blt I hg hm boot_enumerate (PyProof.Rows.callWith_type1 (thn (ha.run pos pins s σ H _ I h) fun us s1 ⟨vs, H1, I1, r1, q1⟩ => ?_) hs rfl))
  obtain ⟨x, ex, q⟩ := q1
  subst ex
  cases r1 with
  | cons r rr =>
    cases rr
    obtain ⟨t, rfl⟩ := r
    refine call_enumerate_str fun h' he hit hsz hk => wpAny_pyIter_enum he ?_
    have I2 : Inv X pins σ H1 { s1 with heap := h' } := I1.kept (t' := s1.toks) hk
    refine ⟨s1.heap.objs.size + 1, [s1.heap.objs.size + 1, s1.heap.objs.size], _, _, H1, rfl, I2, turn_enumS x t (s1.heap.objs.size + 1) s1.heap.objs.size, ⟨⟨.none, he⟩, ⟨Nat.zero_le _, hit⟩, Nat.succ_ne_self _⟩, fun b hb => ?_, q⟩
    have e' : b = s1.heap.objs.size + 1 ∨ b = s1.heap.objs.size := by simpa using hb
    have hle : s1.heap.objs.size ≤ b := by
      rcases e' with z | z
      · rw [z]; exact Nat.le_add_right _ _
      · rw [z]; exact Nat.le_refl _
    exact I1.fpOk hle (I1.hok.fresh hle)
theorem itok_enumS {K : PySem.W.Frag} {G : Hp} {s : List Nat} : ItOk K (Itse (ofL s)) G (enumL 0 (s.map fun c => D.str [c])) := by
  have hl : (enumL 0 (s.map fun c => D.str [c])).length = (ofL s).cps.size := by
    rw [enumL_len, List.length_map]
    exact (ofL_len s).symm
  refine itok_pair (K := K) (G := G) (n := (ofL s).cps.size) (C := fun _ => True) (xs := fun i => some (.int (i : Nat))) (ys := fun i => (s[i]?).map fun c => .str ⟨#[c]⟩) hl ⟨fun _ _ hi _ => hi, fun _ _ => Nat.le_refl _, fun i H v H' _ _ y => ?_⟩ (fun _ _ => trivial) fun i x y e1 e2 => ?_
  · obtain ⟨T, c, h1, h2, h3, h4⟩ := y
    have : s[i]? = some c := by
      have := h4
      rw [← Array.getElem?_toList, ofL_cps] at this
      exact this
    exact ⟨T, _, _, h1, h2, h3, rfl, by dsimp only; rw [this]; rfl⟩
  · cases e1
    cases h : s[i]? with
    | none => rw [h] at e2; cases e2
    | some c =>
      rw [h] at e2
      obtain rfl := Option.some.inj e2
      exact ⟨.int i, .str [c], by rw [enumL_get, List.getElem?_map, h]; simp, .int _, .str [c]⟩
section
variable {X : Cx} {c : Lv} {a : Expr} {f : Ev} {pos p : Pos} {tg : Expr}
theorem ri_enum2 {elts : List Expr} {kk : Nat} {tpos : Pos} (hg : Gl X "enumerate") (hm : X.mg "enumerate" = none) (ha : PE X a (tE X.K c f)) (hs : starEach [a] X.env = [(false, eval a X.env)] := by rfl) : PI X (.Tuple elts kk tpos) (.Call (.Name "enumerate" p) [a] [] pos) (tI X.K c (iEnum2 f)) := ⟨fun pins s σ H R I q => by
  obtain ⟨π, ρ, G, S, k⟩ := q
  by_cases z : ∃ t ρ1, f ρ = .ok (.str t) ρ1
  · obtain ⟨t, ρ1, z⟩ := z
    have k' := Po.bind k
    refine (pi_enumS hg hm (pa_cons ha pa_nil hs) hs).run pins s σ H R I ⟨π, ρ, G, S, ?_⟩
    rw [z] at k' ⊢
    intro G1 H1 s1 e1 S1 w rw'
    cases rw'
    exact ⟨_, rfl, (k' G1 H1 s1 e1 S1).now S1 _ itok_enumS⟩
  · refine (ri_enum hg hm ha hs).run pins s σ H R I ⟨π, ρ, G, S, ?_⟩
    have e : iEnum2 f ρ = iEnum f ρ := by
      unfold iEnum2 iEnum
      cases h : f ρ with
      | ok d ρ1 =>
        cases d <;> first | rfl | exact absurd ⟨_, _, h⟩ z
      | rz x ρ1 => rfl
      | st => rfl
    rw [← e]
    exact k⟩
end
end NV

set_option Elab.async false
set_option linter.all false
set_option maxRecDepth 100000
set_option maxHeartbeats 4000000
/-! Lay20: a copy of an own list. -/
namespace NV
open PySem PySem.Spec PyProof.Rows L2
section
variable {X : Cx} {c : Lv} {pos p p2 : Pos} {x : Str}
theorem re_listO (i : Nat) (hg : Gl X "list") (hm : X.mg "list" = none) (hN : X.N[i]? = some x) (hv : Vis X.env.scope x) (hd : (x == ("__debug__" : Str)) = false := by decide) (hcd : (x == ("__classdict__" : Str)) = false := by decide)
    (hs : starEach [.Name x p2] X.env = (false, eval (.Name x p2) X.env) :: starEach [] X.env := by rfl) : PE X (.Call (.Name "list" p) [.Name x p2] [] pos) (tE X.K c (eListO i)) := by
  refine PE_imp (pe_callTy (T := "list") callr_U hg hm rfl (pa_cons (pe_var hN hv hd hcd) pa_nil hs) (by decide) (by decide) hs rfl) fun σ H Q q => ?_
  obtain ⟨π, ρ, G, S, k⟩ := q
  unfold eListO at k
  cases z : held ρ i with
  | none => simp only [z] at k; exact False.elim k
  | some d =>
    cases d with
    | lst ys =>
      simp only [z] at k
      obtain ⟨p', a1, a2, ws', a3, a4⟩ := held_of S z
      have h : Fin X.K G H Q (.lst ys) := fun w G' H' g r => k.grow S g w r
      exact ⟨.ref p', a1, rUC_of call_list_of ⟨_, _, rfl, .inl (SqL.of a3), h.lst S.sub a4⟩⟩
    | _ => simp only [z] at k; exact False.elim k
theorem cd_int : CallD1 X (.type "int") opInt := by
  refine ⟨fun {G H x a d Q} s ra e h => ?_⟩
  cases ra with
  | int i =>
    obtain rfl := Option.some.inj e
    exact rUC_of call_int1 (.inl ⟨_, rfl, h.int s⟩)
  | bl b =>
    obtain rfl := Option.some.inj e
    exact rUC_of call_int1 (.inr ⟨_, rfl, h.int s⟩)
  | _ => simp [opInt] at e
end
end NV

set_option Elab.async false
set_option linter.all false
set_option maxRecDepth 100000
set_option maxHeartbeats 4000000
/-! Lay21: range(a, b) of numbers of any size. -/
namespace NV
open PySem PySem.Spec PyProof.Rows L2
theorem turn_rangeL {P : Program} {w : World} {K : PySem.W.Frag} {tg : Expr} (it : Addr) (lo : Int) (n : Nat) : Turn P w K tg (Itr lo n) [it] it (fun i h => IsLongIter h it (lo + (i : Nat) * 1) ((n : Int) - (i : Nat)) 1) where
  mem := by simp
  obj := fun i h st b hb => by
    have e : b = it := by simpa using hb
    subst e
    exact ⟨_, st, fun v z => by
      have z' : Data.fields _ = Data.cell v := z
      cases z'⟩
  keep := fun i h h' st k => k it (by simp) _ st
  item := by
    intro X hP hw hK hc i pins s σ H E I hf st hg
    subst hP hw hK
    obtain ⟨f0, f1, f2, f3, f4, f5⟩ := hf it (by simp)
    have W := Walks.longrange (prog := X.prog) (w := X.w) (I.ok.hd hc) it lo 1 n
    refine W.item i s _ _ hg st fun v h' tk hv st' kk => ?_
    obtain ⟨t, rfl⟩ := hv
    have I1 : Inv X pins σ H { s with heap := h', toks := tk } := I.turned (fun b o hb e => kk b o (by simpa using hb) e) f0 f1 f3 f4 f5
    refine ⟨_, rfl, go_of (s := { s with heap := h', toks := tk }) (n := "longrange_iterator") st' rfl rfl (by decide) ⟨.int (lo + i), H, I1, ⟨t, ?_⟩, ⟨rfl, rfl⟩, st', fun b hb => (hf b hb).1⟩⟩
    rw [Int.mul_one]
  done := by
    intro X hP hw hK hc i pins s σ H E I hf st hg
    subst hP hw hK
    obtain ⟨f0, f1, f2, f3, f4, f5⟩ := hf it (by simp)
    exact wpAny_pyNext_long_end (I.ok.hd hc) st (by have : n ≤ i := hg; omega) fun h' eb => ⟨rfl, I.turned (t' := s.toks) (fun b o hb e => eb b o hb e) f0 f1 f3 f4 f5⟩
  self := fun _ _ _ _ _ st h => wpAny_pyIter_longiter st h
section
variable {X : Cx} {tg : Expr}
theorem range_itL {pins : List (Addr × Obj)} {σ : St} {H : Hp} {s : Shared} {R : It → Hp → Prop} {E : Value → Shared → Prop} {lo hi : Int} {t u v : Tok} {tk : Nat} (I : Inv X pins σ H s)
    (q : R (Itr lo (hi - lo).toNat) H) : wpAny (model X.prog X.w) X.A (pyIter (.ref s.heap.objs.size)) (PIE X pins σ tg R) E { s with heap := s.heap.push { cls := .type "range", data := .fields #[.int lo t, .int hi u, .int 1 v] }, toks := tk } := by
  have I1 : Inv X pins σ H { s with heap := s.heap.push { cls := .type "range", data := .fields #[.int lo t, .int hi u, .int 1 v] }, toks := tk } := I.kept fun b o e => Heap.get?_push_of_some _ e
  have e1 : lo + ((0 : Nat) : Int) * 1 = lo := by simp
  have e2 : (((hi - lo).toNat : Nat) : Int) - ((0 : Nat) : Int) = Builtin.Range.rangeSize lo hi 1 := by rw [rangeSize_one]; split <;> omega
  by_cases hs : Builtin.Range.small lo hi 1 = true
  · refine wpAny_pyIter_range (IsRange.new ..) hs ?_
    refine ⟨(s.heap.push { cls := .type "range", data := .fields #[.int lo t, .int hi u, .int 1 v] }).objs.size, [(s.heap.push { cls := .type "range", data := .fields #[.int lo t, .int hi u, .int 1 v] }).objs.size], _, _, H, rfl,
      I1.kept (t' := tk) fun b o e => Heap.get?_push_of_some _ e, turn_range _ lo (hi - lo).toNat, ?_, fun b hb => ?_, q⟩
    · show IsRangeIter _ _ (lo + ((0 : Nat) : Int) * 1) ((((hi - lo).toNat : Nat) : Int) - ((0 : Nat) : Int)) 1
      rw [e1, e2]
      exact Heap.get?_push_size _ rfl
    · have e : b = (s.heap.push { cls := .type "range", data := .fields #[.int lo t, .int hi u, .int 1 v] }).objs.size := by simpa using hb
      subst e
      exact I1.fpOk (Nat.le_refl _) (I1.hok.fresh (Nat.le_refl _))
  · refine wpAny_pyIter_longrange (IsRange.new ..) (by simpa using hs) ?_
    refine ⟨(s.heap.push { cls := .type "range", data := .fields #[.int lo t, .int hi u, .int 1 v] }).objs.size, [(s.heap.push { cls := .type "range", data := .fields #[.int lo t, .int hi u, .int 1 v] }).objs.size], _, _, H, rfl,
      I1.kept (t' := tk) fun b o e => Heap.get?_push_of_some _ e, turn_rangeL _ lo (hi - lo).toNat, ?_, fun b hb => ?_, q⟩
    · show IsLongIter _ _ (lo + ((0 : Nat) : Int) * 1) ((((hi - lo).toNat : Nat) : Int) - ((0 : Nat) : Int)) 1
      rw [e1, e2]
      exact Heap.get?_push_size _ rfl
    · have e : b = (s.heap.push { cls := .type "range", data := .fields #[.int lo t, .int hi u, .int 1 v] }).objs.size := by simpa using hb
      subst e
      exact I1.fpOk (Nat.le_refl _) (I1.hok.fresh (Nat.le_refl _))
def iRng2w (ta : TA) : TI := fun σ H R => ta σ H fun vs H1 => ∃ i j : Int, vs = [.int i, .int j] ∧ R (Itr i (j - i).toNat) H1
theorem pi_range2w {a b : Expr} {ta : TA} {p pos : Pos} (hg : Gl X "range") (hm : X.mg "range" = none) (ha : PA X [a, b] ta) (hs : starEach [a, b] X.env = [(false, eval a X.env), (false, eval b X.env)] := by rfl) (hs2 : starEach [b] X.env = [(false, eval b X.env)] := by rfl) :
    PI X tg (.Call (.Name "range" p) [a, b] [] pos) (iRng2w ta) := by
  refine ⟨fun pins s σ H R I h => ?_⟩
  refine Call_ (ld_blt I hg hm boot_range (PyProof.Rows.callWith_type1 (thn (ha.run pos pins s σ H _ I h) fun us s1 ⟨vs, H1, I1, r1, q1⟩ => ?_) (by rw [hs, hs2]) (by rw [hs2]; rfl)))
  obtain ⟨i, j, e, q⟩ := q1
  subst e
  cases r1 with
  | cons r rr =>
    cases rr with
    | cons r' rr =>
      cases rr
      obtain ⟨t, rfl⟩ := r
      obtain ⟨t', rfl⟩ := r'
      exact call_range_2 (range_itL I1 q)
variable {c : Lv} {a b : Expr} {f h : Ev} {pos p : Pos}
theorem ri_r2w (hg : Gl X "range") (hm : X.mg "range" = none) (ha : PE X a (tE X.K c f)) (hb : PE X b (tE X.K c h)) (hs : starEach [a, b] X.env = [(false, eval a X.env), (false, eval b X.env)] := by rfl) (hs2 : starEach [b] X.env = [(false, eval b X.env)] := by rfl) : PI X tg (.Call (.Name "range" p) [a, b] [] pos) (tI X.K c (iR2w f h)) := ⟨fun pins s σ H R I q => by
  obtain ⟨π, ρ, G, S, k⟩ := q
  refine (pi_range2w hg hm (pa_cons ha (pa_cons hb pa_nil hs2) (by rw [hs, hs2])) hs hs2).run pins s σ H R I ⟨π, ρ, G, S, (Po.bind k).mono fun d1 ρ1 G1 H1 _ _ S1 k1 w1 r1 => ⟨π, ρ1, G1, S1, (Po.bind k1).mono fun d2 ρ2 G2 H2 s2 _ S2 k2 w2 r2 => ?_⟩⟩
  cases d1 <;> cases d2 <;> first | exact False.elim k2 | skip
  rename_i i j
  obtain rfl := r1.int_iff
  obtain rfl := r2.int_iff
  exact ⟨i, j, rfl, k2.now S2 _ itok_range⟩⟩
end
end NV

set_option Elab.async false
set_option linter.all false
set_option maxRecDepth 100000
set_option maxHeartbeats 4000000
/-! Lay22: a list whose lists are changed behind the tests, and then forgotten. -/
namespace NV
open PySem PySem.Spec PyProof.Rows L2
section
variable {K : PySem.W.Frag} {π : Nat → Addr} {ρ ρ0 : Env} {G G0 Gx G' : Hp} {σ σ0 : St} {H H0 H' : Hp} {c : Lv} {i : Nat} {d : D}
theorem noOwn (h : ρ.all noOwnS = true) {b : Addr} : ¬ Ownd ρ σ b := fun ⟨j, s, h1, h2, _⟩ => by
  have q := List.all_eq_true.1 h s (List.mem_of_getElem? h1)
  cases s with
  | un => cases h2
  | v d => cases h2
  | o d => cases q
  | io k d => cases q
theorem noOwn_set (h : ρ.all noOwnS = true) {s : Sl} (hs : noOwnS s = true) : (ρ.set i s).all noOwnS = true := by
  rw [List.all_eq_true]
  intro x hx
  rcases List.mem_or_eq_of_mem_set hx with q | q
  · exact List.all_eq_true.1 h x q
  · subst q; exact hs
/-- no slot is owned: the heap may turn about -/
theorem SE.free (S : SE K π ρ G σ H) (h : ρ.all noOwnS = true) (s : Same G H') : SE K π ρ G σ H' := by
  refine ⟨s, S.len, fun j t e => ?_, fun j k b s t h1 _ o1 _ q1 _ => absurd ⟨j, s, h1, o1, q1⟩ (noOwn h)⟩
  have k := S.ok j t e
  have q := List.all_eq_true.1 h t (List.mem_of_getElem? e)
  cases t with
  | un => trivial
  | v d => exact k
  | o d => cases q
  | io k d => cases q
def Hp.join (G G' : Hp) : Hp := fun b => match G b with
  | some o => some o
  | none => G' b
theorem join_l : Same G (Hp.join G G') := fun b o h => by unfold Hp.join; rw [h]
theorem join_r (s : Same G H) (s' : Same G' H) : Same G' (Hp.join G G') := fun b o h => by
  unfold Hp.join
  cases e : G b with
  | none => exact h
  | some x =>
    have := s _ _ e
    rw [s' _ _ h] at this
    exact this.symm
theorem join_s (s : Same G H) (s' : Same G' H) : Same (Hp.join G G') H := fun b o h => by
  unfold Hp.join at h
  cases e : G b with
  | none => rw [e] at h; exact s' _ _ h
  | some x => rw [e] at h; rw [← h]; exact s _ _ e
structure Tree (K : PySem.W.Frag) (π : Nat → Addr) (ρ : Env) (i : Nat) (d : D) (G0 Gx : Hp) (σ : St) (H : Hp) (ρ0 : Env) (σ0 : St) (H0 : Hp) : Prop where
  no : ρ.all noOwnS = true
  no0 : ρ0.all noOwnS = true
  sub0 : Same G0 H0
  keep : Same H0 H
  at' : ρ[i]? = some (.v d)
  S : SE K π (ρ.set i .un) G0 σ H
  rep : ∃ w, σ[i]? = some (some w) ∧ Rep K Gx w d
  sx : Same Gx H
  sep : ∀ b xs, Gx b = some (.lst xs) → H0 b = none
def tF (K : PySem.W.Frag) (c : Lv) (i : Nat) (g : Es) : TS := fun D σ H => ∃ π ρ d G0 Gx ρ0 σ0 H0, Tree K π ρ i d G0 Gx σ H ρ0 σ0 H0 ∧ PoS K c π ρ0 G0 σ0 H0 (g ρ) D
theorem Tree.both (T : Tree K π ρ i d G0 Gx σ H ρ0 σ0 H0) : SE K π ρ (Hp.join G0 Gx) σ H := by
  refine ⟨join_s T.S.sub T.sx, by rw [← T.S.len, List.length_set], fun j s e => ?_, fun j k b s t h1 _ o1 _ q1 _ => absurd ⟨j, s, h1, o1, q1⟩ (noOwn T.no)⟩
  by_cases ji : j = i
  · subst ji
    obtain rfl := Option.some.inj (T.at'.symm.trans e)
    obtain ⟨w, e1, r⟩ := T.rep
    exact ⟨w, e1, r.mono (join_r T.S.sub T.sx) _⟩
  · have k := T.S.ok j s (by rw [List.getElem?_set_ne (Ne.symm ji)]; exact e)
    have q := List.all_eq_true.1 T.no s (List.mem_of_getElem? e)
    cases s with
    | un => trivial
    | v d =>
      obtain ⟨w, e1, r⟩ := k
      exact ⟨w, e1, r.mono join_l _⟩
    | o d => cases q
    | io k d => cases q
theorem Tree.turn (T : Tree K π ρ i d G0 Gx σ H ρ0 σ0 H0) (s : Same H H') : Tree K π ρ i d G0 Gx σ H' ρ0 σ0 H0 :=
  ⟨T.no, T.no0, T.sub0, T.keep.trans s, T.at', T.S.free (noOwn_set T.no rfl) (T.S.sub.trans s), T.rep, T.sx.trans s, T.sep⟩
theorem Tree.ext (T : Tree K π ρ i d G0 Gx σ H ρ0 σ0 H0) (s : Same H0 H') : Ext ρ0 σ0 G0 H0 (ρ.set i .un) σ G0 H' := fun b o h n =>
  ⟨s _ _ h, noOwn (noOwn_set T.no rfl), fun z => z⟩
/-- what is tracked, without the lists -/
def Hp.thin (G : Hp) : Hp := fun b => match G b with
  | some (.lst _) => none
  | o => o
theorem thin_s : Same (Hp.thin G) G := fun b o h => by
  unfold Hp.thin at h
  split at h
  · cases h
  · exact h
theorem thin_lst {b : Addr} {xs : List V} (h : G b = some (.lst xs)) : Hp.thin G b = none := by unfold Hp.thin; rw [h]
theorem thin_not {b : Addr} {o : HO} (h : G b = some o) : Hp.thin G b = some o ∨ ∃ xs, o = .lst xs := by
  unfold Hp.thin
  rw [h]
  split
  · rename_i xs e
    exact .inr ⟨xs, Option.some.inj e⟩
  · exact .inl rfl
theorem Reps.flats : ∀ {ds : List D} {vs : List V}, ds.all D.flat = true → Reps K G vs ds → Reps K G' vs ds
  | [], _, _, h => by cases h; exact .nil
  | d :: ds, _, f, h => by
    cases h with
    | cons h1 h2 =>
      rw [List.all_cons, Bool.and_eq_true] at f
      exact .cons (h1.flat f.1 _) (Reps.flats f.2 h2)
theorem Rep.thin {w : V} (f : thinD d = true) (h : Rep K G w d) : Rep K (Hp.thin G) w d := by
  cases d with
  | tup ds =>
    cases h with
    | tup h1 h2 =>
      refine .tup ?_ (Reps.flats f h2)
      rcases h1 with (h | ⟨o, h⟩) | h
      · rcases thin_not h with q | ⟨_, q⟩
        · exact .inl (.inl q)
        · cases q
      · rcases thin_not h with q | ⟨_, q⟩
        · exact .inl (.inr ⟨o, q⟩)
        · cases q
      · exact .inr h
  | non => cases h; exact .non
  | bl b => cases h; exact .bl b
  | int b => cases h; exact .int b
  | str b => cases h; exact .str b
  | _ => exact absurd (show false = true from f) Bool.false_ne_true
theorem thin_no : (ρ.map thinS).all noOwnS = true := by
  rw [List.all_eq_true]
  intro x hx
  obtain ⟨s, _, rfl⟩ := List.mem_map.1 hx
  cases s with
  | v d =>
    show noOwnS (if thinD d = true then .v d else .un) = true
    by_cases hd : thinD d = true
    · rw [if_pos hd]; rfl
    · rw [if_neg hd]; rfl
  | un => rfl
  | o d => rfl
  | io k d => rfl
theorem SE.thin (S : SE K π ρ G σ H) : SE K π (ρ.map thinS) (Hp.thin G) σ H := by
  refine ⟨thin_s.trans S.sub, by rw [List.length_map]; exact S.len, fun j t e => ?_, fun j k b s t h1 _ o1 _ q1 _ => absurd ⟨j, s, h1, o1, q1⟩ (noOwn thin_no)⟩
  rw [List.getElem?_map] at e
  cases z : ρ[j]? with
  | none => rw [z] at e; cases e
  | some s =>
    rw [z] at e
    obtain rfl := Option.some.inj e
    have k := S.ok j s z
    cases s with
    | v d =>
      show SlOk K π (Hp.thin G) H σ[j]? (if thinD d = true then .v d else .un)
      by_cases hd : thinD d = true
      · rw [if_pos hd]
        obtain ⟨w, e1, r⟩ := k
        exact ⟨w, e1, r.thin hd⟩
      · rw [if_neg hd]; trivial
    | un => trivial
    | o d => trivial
    | io k d => trivial
end
section
variable {X : Cx} {c : Lv} {a b e e1 e2 e3 : Expr} {f f1 f2 f3 : Ev} {pos p apos cpos pos' : Pos} {x : Str} {sts sa : List Stmt} {A B : Es}
theorem rss_tree (i : Nat) {pos' : Pos} (hN : X.N.Nodup) (hi : X.N[i]? = some x) (hx : Loc X.env.scope x) (he : PE X e (tE X.K c f)) (hb : PSs X sts (tF X.K c i B)) (hs : swapsWith e (some (.Name x pos')) pos.line X.env = pure false := by rfl) (hf : X.fn x = true ∨ X.env.scope.names.lookup x = some .local := by first | exact .inl rfl | exact .inr rfl | assumption) :
    PSs X (.Assign [.Name x pos'] e pos :: sts) (tS X.K c (sTree i f B)) := PSs_imp (pss_cons (ps_set hN hi hx he hs hf) hb) fun D σ H q => by
  obtain ⟨π, ρ, G, S, k⟩ := q
  unfold sTree at k
  by_cases hc : ρ.all noOwnS = true ∧ i < ρ.length
  · rw [if_pos hc] at k
    obtain ⟨no, il⟩ := hc
    refine ⟨π, ρ.map thinS, Hp.thin G, S.thin, ?_⟩
    cases z : f (ρ.map thinS) with
    | ok d ρ' =>
      rw [z] at k
      intro G' H' s' e' S' w r
      have kp : Same H H' := fun b o h => (e' b o h (noOwn thin_no)).1
      have Su := (S.free no (S.sub.trans kp))
      refine ⟨π, ρ.set i (.v d), d, G, G', ρ, σ, H, ⟨noOwn_set no rfl, no, S.sub, kp, List.getElem?_set_self il, ?_, ⟨w, List.getElem?_set_self (by rw [← S.len]; exact il), r⟩, S'.sub, fun b xs h => ?_⟩, k⟩
      · rw [List.set_set]
        refine ⟨Su.sub, by rw [List.length_set, List.length_set]; exact S.len, fun j s h => ?_, fun j k b s t h1 _ o1 _ q1 _ => absurd ⟨j, s, h1, o1, q1⟩ (noOwn (noOwn_set no rfl))⟩
        rcases getset h with ⟨rfl, _, rfl⟩ | ⟨ne, h⟩
        · trivial
        · rw [sset ne]; exact Su.ok j s h
      · cases o : H b with
        | none => rfl
        | some ob =>
          exfalso
          obtain ⟨h1, _, h3⟩ := e' b ob o (noOwn thin_no)
          cases g : Hp.thin G b with
          | none => rw [h3 g] at h; cases h
          | some o2 =>
            have h4 := s' _ _ g
            rw [h] at h4
            obtain rfl := Option.some.inj h4
            have h5 : G b = some (.lst xs) := thin_s _ _ g
            rw [thin_lst h5] at g
            cases g
    | rz _ _ => rw [z] at k; exact False.elim k
    | st => rw [z] at k; exact False.elim k
  · rw [if_neg hc] at k; exact False.elim k
theorem rss_test {i : Nat} (hc : PT X e (tT X.K c f)) (ha : PSs X sa (tS X.K c A)) (hb : PSs X sts (tF X.K c i B)) :
    PSs X (.If e sa [] pos :: sts) (tF X.K c i (sTest i f A B)) := PSs_imp (pss_cons (ps_if hc ha pss_nil) hb) fun D σ H q => by
  obtain ⟨π, ρ, d, G0, Gx, ρ0, σ0, H0, T, k⟩ := q
  refine ⟨π, ρ, _, T.both, ?_⟩
  unfold sTest at k
  cases z : f ρ with
  | ok b ρ1 =>
    rw [z] at k
    intro G' H' s' e' S'
    have kp : Same H H' := fun b o h => (e' b o h (noOwn T.no)).1
    have T' := T.turn kp
    cases b with
    | bl v =>
      refine ⟨v, rfl, ?_⟩
      cases v with
      | true =>
        refine iteT ⟨π, _, G0, T'.S, ?_⟩
        have k2 := PoS.step (Same.refl _) (T'.ext T'.keep) k
        simp only at k2
        cases y : A (ρ.set i .un) with
        | ok fl ρ2 =>
          rw [y] at k2
          cases fl with
          | ret r => exact k2
          | _ => exact False.elim k2
        | rz _ _ => rw [y] at k2; exact False.elim k2
        | st => rw [y] at k2; exact False.elim k2
      | false => exact iteF ⟨π, ρ, d, G0, Gx, ρ0, σ0, H0, T', k⟩
    | _ => exact False.elim k
  | rz _ _ => rw [z] at k; exact False.elim k
  | st => rw [z] at k; exact False.elim k
def tMut (K : PySem.W.Frag) (c : Lv) (tb : TE) (f : Ev) : TS := fun D σ H => tb σ H fun x H1 => ∃ p xs, x = .ref p ∧ H1 p = some (.lst xs) ∧ tE K c f σ H1 fun w H2 => ∃ ys, H2 p = some (.lst ys) ∧ ys.length < line ∧ D.nx σ (upd H2 p (.lst (ys ++ [w])))
def Mono (tb : TE) : Prop := ∀ σ H Q Q', (∀ v H, Q v H → Q' v H) → tb σ H Q → tb σ H Q'
theorem mono_var {i : Nat} : Mono (tVar i) := fun σ H Q Q' m ⟨v, h, q⟩ => ⟨v, h, m _ _ q⟩
theorem mono_ix {tb : TE} {K : PySem.W.Frag} {n : Int} (h : Mono tb) : Mono (tOp (rIxL K) tb (tC (.int n))) := fun σ H Q Q' m q =>
  h σ H _ _ (fun v H1 ⟨p, xs, j, w, a1, a2, a3, a4, a5⟩ => ⟨p, xs, j, w, a1, a2, a3, a4, m _ _ a5⟩) q
theorem ps_mut {tb : TE} (hm : Mono tb) (hbs : PE X b tb) (he : PE X e (tE X.K c f)) (hs : starEach [e] X.env = (false, eval e X.env) :: starEach [] X.env := by rfl)
    (hfew : ((backTo cpos (starEach [e] X.env)).all (fun x => !x.1) && (backToKw cpos (keywordEach [] X.env)).all (fun x => x.1.isSome) && decide ([e].length + ([] : List Keyword).length + (if ([] : List Keyword).isEmpty then 0 else 1) < 30)) = true := by rfl)
    (hline : (apos.endLine == cpos.line) = true := by rfl) (hsw : swapsWith (.Call (.Attribute b "append" apos) [e] [] cpos) none pos.line X.env = pure false := by rfl)
    (hbase : attributeBase b "append" X.env (eval b X.env) = eval b X.env := by rfl) :
    PS X (.Expr (.Call (.Attribute b "append" apos) [e] [] cpos) pos) (tMut X.K c tb f) :=
  PS_imp (ps_expr (pe_bm PySem.F.plainAttrs_list PySem.F.slot_list_append PySem.F.type_list_append mt_append hbs (pa_cons he pa_nil hs) hbase hfew hline hs rfl) hsw) fun D σ H q => by
    refine hm _ _ _ _ (fun v H1 q1 => ?_) q
    obtain ⟨p, xs, rfl, h1, π, ρ, G, S, k⟩ := q1
    refine ⟨.inl ⟨rfl, _, SqL.of h1⟩, π, ρ, G, S, k.mono fun d1 ρ1 G1 H2 _ _ S1 k1 w1 r1 => ?_⟩
    obtain ⟨ys, h2, h3, h4⟩ := k1 w1 r1
    exact ⟨p, ys, w1, rfl, rfl, h2, by rw [← line_eq]; exact h3, h4⟩
theorem atI0 {α : Type} {x : α} {xs : List α} : atI (x :: xs) 0 = some x := by
  simp [atI, L2.ixN]
theorem atI1 {α : Type} {x y : α} {xs : List α} : atI (x :: y :: xs) 1 = some y := by
  have h : (1 : Int) < ((x :: y :: xs).length : Nat) := by simp; omega
  show ((if (0 : Int) ≤ 1 then (if (1 : Int) < ((x :: y :: xs).length : Nat) then some (1 : Int).toNat else none) else _).bind fun j => (x :: y :: xs)[j]?) = some y
  rw [if_pos (by decide), if_pos h]
  rfl
/-- an argument that turns nothing -/
theorem tE_free {K : PySem.W.Frag} {π : Nat → Addr} {ρ ρ' : Env} {G : Hp} {σ : St} {H : Hp} {d : D} {Q : VK} (S : SE K π ρ G σ H) (no : ρ.all noOwnS = true) (z : f ρ = .ok d ρ')
    (h : ∀ w H', Same H H' → Q w H') : tE K c f σ H Q := ⟨π, ρ, G, S, by
  rw [z]
  exact fun G' H' s' e' S' w r => h w H' fun b o h => (e' b o h (noOwn no)).1⟩
theorem rss_mut3 (i : Nat) {px0 px1 px2 pi0 pi1 pi2 pi3 ps0 ps1 ps2 ps3 a1 a2 a3 c1 c2 c3 q1 q2 q3 : Pos} {n1 n2 n3 n4 : Nat} (hN : X.N[i]? = some x) (hv : Vis X.env.scope x) (h1 : PE X e1 (tE X.K c f1)) (h2 : PE X e2 (tE X.K c f2)) (h3 : PE X e3 (tE X.K c f3)) (hb : PSs X sts (tS X.K c B))
    (hd : (x == ("__debug__" : Str)) = false := by decide) (hcd : (x == ("__classdict__" : Str)) = false := by decide)
    (m1 : ∀ {tb : TE} (hm : Mono tb) (hbs : PE X (.Subscript (.Name x px0) (.Constant (.int 0) n1 pi0) ps0) tb), PS X (.Expr (.Call (.Attribute (.Subscript (.Name x px0) (.Constant (.int 0) n1 pi0) ps0) "append" a1) [e1] [] c1) q1) (tMut X.K c tb f1))
    (m2 : ∀ {tb : TE} (hm : Mono tb) (hbs : PE X (.Subscript (.Subscript (.Name x px1) (.Constant (.int 1) n2 pi1) ps1) (.Constant (.int 0) n3 pi2) ps2) tb), PS X (.Expr (.Call (.Attribute (.Subscript (.Subscript (.Name x px1) (.Constant (.int 1) n2 pi1) ps1) (.Constant (.int 0) n3 pi2) ps2) "append" a2) [e2] [] c2) q2) (tMut X.K c tb f2))
    (m3 : ∀ {tb : TE} (hm : Mono tb) (hbs : PE X (.Subscript (.Name x px2) (.Constant (.int 1) n4 pi3) ps3) tb), PS X (.Expr (.Call (.Attribute (.Subscript (.Name x px2) (.Constant (.int 1) n4 pi3) ps3) "append" a3) [e3] [] c3) q3) (tMut X.K c tb f3)) :
    PSs X (.Expr (.Call (.Attribute (.Subscript (.Name x px0) (.Constant (.int 0) n1 pi0) ps0) "append" a1) [e1] [] c1) q1 :: .Expr (.Call (.Attribute (.Subscript (.Subscript (.Name x px1) (.Constant (.int 1) n2 pi1) ps1) (.Constant (.int 0) n3 pi2) ps2) "append" a2) [e2] [] c2) q2 :: .Expr (.Call (.Attribute (.Subscript (.Name x px2) (.Constant (.int 1) n4 pi3) ps3) "append" a3) [e3] [] c3) q3 :: sts) (tF X.K c i (sMut3 i f1 f2 f3 B)) :=
  PSs_imp (pss_cons (m1 (mono_ix mono_var) (pe_ix ix_list (pe_var hN hv hd hcd) pe_int (fun _ _ => rfl)))
    (pss_cons (m2 (mono_ix (mono_ix mono_var)) (pe_ix ix_list (pe_ix ix_list (pe_var hN hv hd hcd) pe_int (fun _ _ => rfl)) pe_int (fun _ _ => rfl)))
      (pss_cons (m3 (mono_ix mono_var) (pe_ix ix_list (pe_var hN hv hd hcd) pe_int (fun _ _ => rfl))) hb))) fun D σ H q => by
    obtain ⟨π, ρ, d, G0, Gx, ρ0, σ0, H0, T, k⟩ := q
    obtain ⟨w, ew, r⟩ := T.rep
    have no := noOwn_set (i := i) (s := .un) T.no rfl
    unfold sMut3 at k
    split at k
    case h_2 => exact False.elim k
    rename_i d' ia as ib bs cs hat
    obtain rfl := Sl.v.inj (Option.some.inj (T.at'.symm.trans hat))
    split at k
    case isFalse => exact False.elim k
    rename_i hl
    obtain ⟨l1, l2, l3⟩ := hl
    split at k
    case h_2 => exact False.elim k
    rename_i d1 ρ1 d2 ρ2 d3 ρ3 z1 z2 z3
    cases r with
    | lst ha ra =>
    cases ra with
    | cons rp rest =>
    cases rest with
    | cons rq nl =>
    cases nl
    cases rp with
    | lst hp rp =>
    cases rp with
    | cons rp1 rp2 =>
    cases rp1
    cases rq with
    | lst hq rq =>
    cases rq with
    | cons rr rq2 =>
    cases rr with
    | lst hr rr =>
    cases rr with
    | cons rr1 rr2 =>
    cases rr1
    rename_i A P PL Q QL R RL
    have lP := rp2.length
    have lQ := rq2.length
    have lR := rr2.length
    have nA := T.sep _ _ ha
    have nP := T.sep _ _ hp
    have nQ := T.sep _ _ hq
    have nR := T.sep _ _ hr
    have hA := T.sx _ _ ha
    have hP := T.sx _ _ hp
    have hQ := T.sx _ _ hq
    have hR := T.sx _ _ hr
    have AP : A ≠ P := fun z => by subst z; rw [hA] at hP; cases hP
    have AR : A ≠ R := fun z => by subst z; rw [hA] at hR; cases hR
    have QP : Q ≠ P := fun z => by subst z; rw [hQ] at hP; cases hP
    have QR : Q ≠ R := fun z => by subst z; rw [hQ] at hR; cases hR
    have kp : Same H0 H := T.keep
    have SU := T.S
    have st0 : ∀ {H H' : Hp} {p : Addr} {o : HO}, Same H0 H → H0 p = none → Same H0 (upd H p o) := fun {H H' p o} s n b x e => by
      rw [upd_ne (fun z => by subst z; rw [n] at e; cases e)]
      exact s _ _ e
    refine ⟨_, ew, _, _, _, _, rfl, rfl, SqL.of hA, atI0, _, _, rfl, hP, tE_free SU no z1 fun w1 H1 s1 => ⟨_, s1 _ _ hP, by simp; omega, ?_⟩⟩
    have kA := st0 (H' := H1) (p := P) (o := .lst (.int ia :: PL ++ [w1])) (kp.trans s1) nP
    have eR : ∃ ys, upd H1 P (.lst (.int ia :: PL ++ [w1])) R = some (.lst ys) ∧ ys.length + 1 < line := by
      by_cases rp : R = P
      · subst rp
        exact ⟨_, upd_same, by simp; omega⟩
      · exact ⟨_, by rw [upd_ne rp]; exact s1 _ _ hR, by simp; omega⟩
    obtain ⟨ys, eR, lys⟩ := eR
    have SA := T.S.free no (T.sub0.trans kA)
    refine ⟨_, ew, _, _, _, _, rfl, rfl, SqL.of (by rw [upd_ne AP]; exact s1 _ _ hA), atI1, _, _, _, _, rfl, rfl, SqL.of (by rw [upd_ne QP]; exact s1 _ _ hQ), atI0, _, _, rfl, eR, tE_free SA no z2 fun w2 H2 s2 => ⟨_, s2 _ _ eR, by omega, ?_⟩⟩
    have kB := st0 (H' := H2) (p := R) (o := .lst (ys ++ [w2])) (kA.trans s2) nR
    have SB := T.S.free no (T.sub0.trans kB)
    have hA2 : upd H2 R (.lst (ys ++ [w2])) A = some (.lst [.ref P, .ref Q]) := by rw [upd_ne AR]; exact s2 _ _ (by rw [upd_ne AP]; exact s1 _ _ hA)
    have hQ2 : upd H2 R (.lst (ys ++ [w2])) Q = some (.lst (.ref R :: QL)) := by rw [upd_ne QR]; exact s2 _ _ (by rw [upd_ne QP]; exact s1 _ _ hQ)
    refine ⟨_, ew, _, _, _, _, rfl, rfl, SqL.of hA2, atI1, _, _, rfl, hQ2, tE_free SB no z3 fun w3 H3 s3 => ⟨_, s3 _ _ hQ2, by simp; omega, ?_⟩⟩
    have kC := st0 (H' := H3) (p := Q) (o := .lst (.ref R :: QL ++ [w3])) (kB.trans s3) nQ
    exact ⟨π, _, G0, T.S.free no (T.sub0.trans kC), PoS.step (Same.refl _) (T.ext kC) k⟩
end
end NV

set_option Elab.async false
set_option linter.all false
set_option maxRecDepth 100000
set_option maxHeartbeats 4000000
/-! Lay23: min(xs, default=None) of pairs of numbers. -/
namespace NV
open PySem PySem.Spec PyProof.Rows L2
open PySem.W (Holds HoldAll Datum DatumOrd minOf holds_pair holds_int min_list_datum_default)
inductive PairsV (K : PySem.W.Frag) (H : Hp) : List V → List (Int × Int) → Prop
  | nil : PairsV K H [] []
  | cons {t : Addr} {vs : List V} {p : Int × Int} {ps : List (Int × Int)} : SqT K H t [.int p.1, .int p.2] → PairsV K H vs ps → PairsV K H (.ref t :: vs) (p :: ps)
theorem PairsV.get {K : PySem.W.Frag} {H : Hp} : ∀ {vs : List V} {ps : List (Int × Int)} {i : Nat} {v : V}, PairsV K H vs ps → vs[i]? = some v → ∃ t p, v = .ref t ∧ ps[i]? = some p ∧ SqT K H t [.int p.1, .int p.2]
  | _, _, _, _, .nil, e => by simp at e
  | _, _, 0, _, .cons h _, e => by simp at e; subst e; exact ⟨_, _, rfl, rfl, h⟩
  | _, _, i + 1, _, .cons _ r, e => by
    obtain ⟨t, p, e1, e2, e3⟩ := PairsV.get (i := i) r (by simpa using e)
    exact ⟨t, p, e1, by simpa using e2, e3⟩
theorem pairs_of {K : PySem.W.Frag} {G H : Hp} (s : Same G H) : ∀ {ds : List D} {vs : List V} {ps : List (Int × Int)}, Reps K G vs ds → pairsD ds = some ps → PairsV K H vs ps
  | [], _, _, h, e => by
    cases h
    obtain rfl := Option.some.inj e
    exact .nil
  | d :: ds, _, ps, h, e => by
    cases h with
    | cons h1 h2 =>
      unfold pairsD at e
      split at e
      · rename_i e0; cases e0
      · rename_i a b r e0
        injection e0 with e1 e2
        subst e1
        subst e2
        cases z : pairsD ds with
        | none => rw [z] at e; cases e
        | some qs =>
          rw [z] at e
          obtain rfl := Option.some.inj e
          cases h1 with
          | tup t1 t2 =>
            cases t2 with
            | cons r1 t3 =>
              cases t3 with
              | cons r2 t4 =>
                cases t4
                obtain rfl := r1.int_iff
                obtain rfl := r2.int_iff
                exact .cons (Same.tupS s t1) (pairs_of s h2 z)
      · cases e
theorem pairsD_get : ∀ {ds : List D} {ps : List (Int × Int)} {i : Nat} {d : D} {p : Int × Int}, pairsD ds = some ps → ds[i]? = some d → ps[i]? = some p → d = .tup [.int p.1, .int p.2]
  | [], _, _, _, _, _, e, _ => by simp at e
  | x :: ds, ps, i, d, p, z, e, g => by
    unfold pairsD at z
    split at z
    · rename_i e0; cases e0
    · rename_i a b r e0
      injection e0 with e1 e2
      subst e1
      subst e2
      cases y : pairsD ds with
      | none => rw [y] at z; cases z
      | some qs =>
        rw [y] at z
        obtain rfl := Option.some.inj z
        cases i with
        | zero =>
          simp at e g
          subst e
          subst g
          rfl
        | succ i => exact pairsD_get (i := i) y (by simpa using e) (by simpa using g)
    · cases z
def rMinN (K : PySem.W.Frag) : List V → List V → Hp → VK → Prop := fun vs zs H Q => ∃ (a : Addr) (xs : List V) (ps : List (Int × Int)), vs = [V.ref a] ∧ zs = [.non] ∧ SqL K H a xs ∧ PairsV K H xs ps ∧ (ps = [] → Q .non H) ∧
  ∀ (p : Int × Int) (r : List (Int × Int)) (i : Nat) (t : Addr), ps = p :: r → xs[i]? = some (.ref t) → ps[i]? = some (minP p r) → Q (.ref t) H
section
variable {X : Cx}
theorem minP_eq (p : Int × Int) (r : List (Int × Int)) : minOf p r = minP p r := rfl
theorem hold_pair {pins : List (Addr × Obj)} {σ : St} {H : Hp} {s : Shared} {t : Addr} {p : Int × Int} (I : Inv X pins σ H s) (h : SqT X.K H t [.int p.1, .int p.2]) : Holds s.heap (.ref t) p := by
  obtain ⟨its, r, ⟨o, ho, hc, n, hd⟩, _⟩ := I.tuple h
  cases r with
  | cons r1 r =>
    cases r with
    | cons r2 r =>
      cases r
      obtain ⟨t1, rfl⟩ := r1
      obtain ⟨t2, rfl⟩ := r2
      exact holds_pair (x := p.1) (y := p.2) ⟨o, ho, hc, n, hd⟩ (holds_int _ _) (holds_int _ _)
theorem hold_all {pins : List (Addr × Obj)} {σ : St} {H : Hp} {s : Shared} (I : Inv X pins σ H s) : ∀ {xs : List V} {ps : List (Int × Int)} {its : List Value}, PairsV X.K H xs ps → Vals xs its → HoldAll s.heap its ps
  | _, _, _, .nil, r => by cases r; exact HoldAll.nil
  | _, _, _, .cons h hr, r => by
    cases r with
    | cons r1 r2 =>
      obtain rfl := r1
      exact HoldAll.cons (hold_pair I h) (hold_all I hr r2)
theorem Vals.getV : ∀ {xs : List V} {us : List Value} {i : Nat} {u : Value}, Vals xs us → us[i]? = some u → ∃ x, xs[i]? = some x ∧ RelV x u
  | _, _, _, _, .nil, e => by simp at e
  | _, _, 0, _, .cons r _, e => by simp at e; subst e; exact ⟨_, rfl, r⟩
  | _, _, i + 1, _, .cons _ r, e => by
    obtain ⟨x, e1, e2⟩ := Vals.getV (i := i) r (by simpa using e)
    exact ⟨x, by simpa using e1, e2⟩
theorem cr_minN (hc : X.calm = true) (hu : X.A.units + 64 < cLine) : CallRK X (.builtin "min") [Str.ofString "default"] (rMinN X.K) := by
  intro pins s σ H vs zs us ws Q I r rz h
  obtain ⟨a, xs, ps, rfl, rfl, hs, hp, q0, q1⟩ := h
  obtain rfl := Vals.ref1 r
  obtain ⟨w1, rfl, e1⟩ := vals1 rz
  obtain rfl : w1 = Value.none := e1
  obtain ⟨its, rv, hl, hz⟩ := I.list hs
  have A := hold_all I hp rv
  refine min_list_datum_default (α := Int × Int) (xs := ps) (I.ok.hd hc) hl.isList (by simpa using A) ?_ (fun e h' tk k => ?_) fun p r i v h' tk e hi hv k => ?_
  · have : Datum.depth (Int × Int) ≤ 32 := by decide
    omega
  · exact ⟨.non, H, I.kept k, rfl, q0 e⟩
  · obtain ⟨x, hx, rx⟩ := Vals.getV (i := i) rv (by simpa using hi)
    obtain ⟨t, p2, rfl, e2, e3⟩ := hp.get hx
    obtain rfl : v = Value.ref t := rx
    have h1 := (hold_pair I e3).keeps k
    obtain ⟨as1, g1⟩ := h1
    obtain ⟨as2, g2⟩ := hv
    have g3 := (g1.unique _ _ g2).1
    have g4 : p2 = minOf p r := by
      have : PyData.tuple [.int p2.1, .int p2.2] = PyData.tuple [.int (minOf p r).1, .int (minOf p r).2] := g3
      injection this with this
      injection this with a1 a2
      injection a2 with a2 _
      injection a1 with a1
      injection a2 with a2
      exact Prod.ext a1 a2
    exact ⟨.ref t, H, I.kept k, rfl, q1 p r i t e hx (by rw [e2, g4]; rfl)⟩
variable {c : Lv} {a : Expr} {f : Ev} {pos p kp np : Pos} {kn : Nat}
theorem re_minN (hc : X.calm = true) (hu : X.A.units + 64 < cLine) (hg : Gl X "min") (hm : X.mg "min" = none) (ha : PE X a (tE X.K c f))
    (hall : (backToKw pos (keywordEach [⟨some "default", .Constant .none kn np, kp⟩] X.env)).all (·.1.isSome) = true := by rfl) (hnone : (backToKw pos (keywordEach [⟨some "default", .Constant .none kn np, kp⟩] X.env)).any (·.1.isNone) = false := by rfl) (hks : (backToKw pos (keywordEach [⟨some "default", .Constant .none kn np, kp⟩] X.env)).filterMap (·.1) = [Str.ofString "default"] := by rfl)
    (hs : starEach [a] X.env = (false, eval a X.env) :: starEach [] X.env := by rfl) (he : backTo pos (starEach (a :: []) X.env) = (false, eval a X.env) :: backTo pos (starEach [] X.env) := by rfl) (hpl : (backTo pos (starEach (a :: []) X.env)).any (·.1) = false := by rfl) :
    PE X (.Call (.Name "min" p) [a] [⟨some "default", .Constant .none kn np, kp⟩] pos) (tE X.K c (e1 opMinN f)) :=
  PE_imp (pe_callBK (cr_minN hc hu) hg hm rfl (pa_cons ha pa_nil hs) (pk_cons pe_non pk_nil) (by decide) (by decide) he hpl hall hnone hks) fun σ H Q q => by
    obtain ⟨π, ρ, G, S, k⟩ := q
    refine ⟨π, ρ, G, S, (Po.bind k).mono fun d1 ρ1 G1 H1 _ _ S1 k1 w1 r1 => ?_⟩
    cases r1 with
    | lst h1 h2 =>
      unfold opMinN at k1
      simp only at k1
      cases z : pairsD _ with
      | none => rw [z] at k1; exact False.elim k1
      | some ps =>
        rw [z] at k1
        refine ⟨_, _, ps, rfl, rfl, SqL.of (S1.sub _ _ h1), pairs_of S1.sub h2 z, fun e => ?_, fun p r i t e ht hm' => ?_⟩
        · subst e
          exact k1.now S1 _ .non
        · subst e
          obtain ⟨d, hd, rd⟩ := h2.getV ht
          have ed := pairsD_get z hd hm'
          subst ed
          exact k1.now S1 _ rd
    | _ => exact False.elim k1
end
end NV

set_option Elab.async false
set_option linter.all false
set_option maxRecDepth 100000
set_option maxHeartbeats 4000000
/-! Lay24: an exception that is kept behind the suite. -/
namespace L2
open PySem PySem.Spec PyProof.Rows
def wKeep (K : PySem.W.Frag) (c : Value) (i j : Nat) (Wout : WX) (D : Ends) : WX := fun cls d σ H =>
  ∃ b, PySem.W.exmOne K cls c = some b ∧ (b = true → ∀ a, H a = none → D.nx (((σ.set i (some (.ref a))).set j (some (.ref a))).set i none) (upd H a (NV.exv cls d a))) ∧ (b = false → Wout cls d σ H)
/-- an exception's object that is known by a pin is tracked -/
theorem Inv.hold {X : Cx} {pins : List (Addr × Obj)} {σ : St} {H : Hp} {s : Shared} {a : Addr} {oe : Obj} {cls : Value} {d : Option Addr} {vs : Array Value} (I : Inv X pins σ H s) (ha : s.heap.get? a = some oe) (na : H a = none) (nL : a ≠ X.env.locals) (hz : Zc cls d oe) (hd : oe.data = .fields vs)
    (hp : ∀ p ∈ X.pn ++ pins, p.1 ≠ a) (hb : ∀ o, a ∉ X.ex → X.s_0.heap.get? a ≠ some o) : Inv X pins σ (upd H a (NV.exv cls d a)) s := by
  have ne : ∀ {b : Addr} {o : HO}, H b = some o → b ≠ a := fun e z => by rw [z, na] at e; cases e
  refine ⟨I.ok, I.os, I.bare, ⟨I.base.keep, I.base.slot, fun b o e n hx => ?_, I.base.there, fun b xs e => ?_, fun b o u e => ?_, fun b ps e => ?_⟩, I.loc, I.cell, ?_, fun x c e => ?_, fun p hpp => ?_, fun b ob e => ?_, I.len⟩
  · by_cases z : b = a
    · subst z
      exact absurd e (hb o hx)
    · rw [upd_ne z]; exact I.base.free b o e n hx
  · have := I.base.tups b xs e
    rw [upd_ne (ne this)]; exact this
  · have := I.base.frzs b o u e
    rw [upd_ne (ne this)]; exact this
  · obtain ⟨more, this⟩ := I.base.tbls b ps e
    exact ⟨more, by rw [upd_ne (ne this)]; exact this⟩
  · rw [upd_ne (Ne.symm nL)]; exact I.free
  · by_cases z : c = a
    · subst z
      obtain ⟨v, o, e1, e2⟩ := I.cell x c e
      rw [ha] at e1
      obtain rfl := Option.some.inj e1
      rw [hd] at e2
      cases e2
    · rw [upd_ne z]; exact I.freeC x c e
  · obtain ⟨e, n, n1, n2, n3⟩ := I.pin p hpp
    exact ⟨e, by rw [upd_ne (hp p hpp)]; exact n, n1, n2, n3⟩
  · by_cases z : b = a
    · subst z
      rw [upd_same] at e
      obtain rfl := Option.some.inj e
      exact ⟨⟨oe, vs, ha, hz, hd⟩, ⟨oe, ha⟩, fun h1 h2 ⟨o, v, q1, q2, q3⟩ k => ⟨o, v, k _ q1, q2, q3⟩⟩
    · rw [upd_ne z] at e
      exact (I.hok b ob e).stay (fun _ _ _ q => q) (fun c q => by rw [upd_ne (ne q)]; exact q) fun c xs q => by rw [upd_ne (ne q)]; exact q
section
variable {X : Cx} {x n y : Str} {c : Value} {i j : Nat} {body : List Stmt} {np pos pos' p1 p2 p3 : Pos} {tb : WX → TS} {Wout : WX}
theorem ps_try_keep (hs : X.stack = X.env :: X.outer) (hf : X.env.frame = some X.env.locals) (hN : X.N.Nodup) (hi : X.N[i]? = some n) (hj : X.N[j]? = some y) (hij : i ≠ j) (hln : X.env.kindOf n = some .local) (hlv : X.env.scope.names.lookup n = some .local) (hly : Loc X.env.scope y) (hc : Names X x c) (tk : Takes X Wout)
    (hb : ∀ (W : WX) (pn : List (Addr × Obj)) (xe : Value → Shared → Prop), Takes (X.tr pn xe) W → PassesOwn (model X.prog X.w) X.A X.env xe → PSs (X.tr pn xe) body (tb W))
    (hsw : swapsWith (.Name n p2) (some (.Name y p1)) p3.line X.env = pure false := by rfl) (hfy : X.env.scope.names.lookup y = some .local := by rfl) (hd : (n == ("__debug__" : Str)) = false := by decide) (hcd : (n == ("__classdict__" : Str)) = false := by decide) :
    PS X (.Try body [.ExceptHandler (some (.Name x np)) (some n) [.Assign [.Name y p1] (.Name n p2) p3] pos'] [] [] pos) (fun D σ H => tb (wKeep X.K c i j Wout D) D σ H) := by
  refine ⟨fun pins s σ H D I h => ?_⟩
  have ok := I.ok
  have hfr : X.A.frames = some (X.env :: X.outer) := by rw [ok.frames, hs]
  have hloc : Loc X.env.scope n := .inl hln
  refine wpAny_Try_except ?_
  refine wpAny_mono ((hb (wKeep X.K c i j Wout D) (X.pn ++ pins) (fun e s₁ => wpAny (model X.prog X.w) X.A (noteFrame e X.env) (fun _ s₂ => wpAny (model X.prog X.w) X.A (setFlight e none) (fun _ s₃ =>
    wpAny (model X.prog X.w) X.A (handleBy e X.env [.ExceptHandler (some (.Name x np)) (some n) [.Assign [.Name y p1] (.Name n p2) p3] pos']) (SP X pins D) X.xe s₃) X.xe s₂) X.xe s₁) (fun u s' xx => ?_) PassesOwn.looking).run [] s σ H D (I.toTry _) h) (fun f s1 hsp => ?_) (fun e s1 he => he)
  · -- the catch
    obtain ⟨a, B, sI, pins', σ', H', cls, d, rfl, J', nb, up, sky, na, os, ag, b, hb1, hyes, hno⟩ := xx
    have J : Inv X pins σ' H' sI := J'.ofTry ok
    have sky' : Sky B (X.env :: X.outer) a (Zc cls d) X.env.locals s'.heap := by rw [← hs]; exact sky
    show wpAny (model X.prog X.w) X.A (noteFrame (.ref a) X.env) _ _ _
    refine Sky.land Zc.steady hfr hf sky' fun h3 fl3 up3 => ?_
    have J3 : Inv X pins σ' H' { s' with heap := h3 } := J.landed nb fl3.1 (up.trans up3) os ag
    obtain ⟨oe3, vs3, he3, hz3, hd3⟩ := fl3.there
    have notFr : ∀ {h : Heap} {o : Obj} {vs : Array Value}, h.FunFrames B (X.env :: X.outer) → h.get? a = some o → o.data = .fields vs → a ∉ frs (X.env :: X.outer) := fun {h o vs} ff e dd hm => by
      obtain ⟨_, o', e', hnf⟩ := ff.mem hm
      rw [e] at e'; cases e'
      exact hnf _ dd
    have nfr := notFr fl3.2.2.1 he3 hd3
    have nL : a ≠ X.env.locals := fun z => nfr (List.mem_filterMap.mpr ⟨X.env, List.mem_cons_self, by rw [hf, z]⟩)
    have nF : a ∉ X.fs := fun hm => by
      obtain ⟨e, he, q⟩ := List.mem_filterMap.mp hm
      exact nfr (List.mem_filterMap.mpr ⟨e, List.mem_cons_of_mem _ he, q⟩)
    have S3 := J3.suite he3 hd3 na nL nF
    have aI : sI.heap.get? a = none := by
      cases e : sI.heap.get? a with
      | none => rfl
      | some o =>
        have := nb a o e (by rw [hs]; exact nfr)
        rw [fl3.2.1] at this; cases this
    have aP : ∀ p ∈ X.pn ++ pins, p.1 ≠ a := fun p hp z => by
      have := (J.pin p hp).1
      rw [z, aI] at this; cases this
    have aB : ∀ o, a ∉ X.ex → X.s_0.heap.get? a ≠ some o := fun o hx e => by
      obtain ⟨o', q⟩ := J.base.there a o e hx
      rw [aI] at q; cases q
    refine wpAny_handleBy_cons (codeAny_handlers_test ?_) (by intro q; cases q)
    have LT : PySem.W.Looks (model X.prog X.w) h3 (typeOf (.ref a)) cls := fun A Q E s k q => wpAny_typeOf_ref (k _ _ he3) (by rw [hz3.1]; exact q)
    have LM := PySem.W.exm_one (M := model X.prog X.w) (J3.kIn) LT hb1
    have test : ∀ {Q : Value → Shared → Prop} {E : Value → Shared → Prop}, Q c { s' with heap := h3 } → wpAny (model X.prog X.w) (X.A.mark (some (.ref a))) (eval (.Name x np) X.env) Q E { s' with heap := h3 } := fun {Q E} q => by
      obtain ⟨hg, hdbg, hm | ⟨hm, hv, hnn⟩⟩ := hc
      · exact ld_glob (X := X.suite a ((a, oe3) :: (X.pn ++ pins))) S3 hg hm q hdbg
      · exact ld_blt (X := X.suite a ((a, oe3) :: (X.pn ++ pins))) S3 hg hm hv q hnn hdbg
    refine test (LM.here ?_)
    cases b with
    | true =>
      refine codeAny_handlers_suite_as ?_
      refine HandSPX.lands_againZ fl3 fun h4 fl4 up4 => ?_
      have J4 : Inv X pins σ' H' { s' with heap := h4 } := J.landed nb fl4.1 ((up.trans up3).trans up4) os ag
      obtain ⟨oe4, vs4, he4, hz4, hd4⟩ := fl4.there
      have S4 := J4.suite he4 hd4 na nL nF
      refine store_ok (X := X.suite a ((a, oe4) :: (X.pn ++ pins))) (v := .ref a) S4 hN hi hloc rfl (fun s5 S5 => ?_) (.inr hln)
      have hlen : i < σ'.length := by
        rw [J.len]
        exact (List.getElem?_eq_some_iff.mp hi).1
      have suiteP : PSs (X.suite a ((a, oe4) :: (X.pn ++ pins))) [.Assign [.Name y p1] (.Name n p2) p3] (tAsg (tVar i) (gName j)) :=
        pss_one (ps_set (X := X.suite a ((a, oe4) :: (X.pn ++ pins))) hN hj hly (pe_var (X := X.suite a ((a, oe4) :: (X.pn ++ pins))) hi (.inl hlv) hd hcd) hsw (.inr hfy))
      refine wpAny_mono (suiteP.run [] s5 _ H' { nx := fun σ6 H6 => σ6 = (σ'.set i (some (.ref a))).set j (some (.ref a)) ∧ H6 = H', rt := fun _ _ => False } S5 ⟨.ref a, List.getElem?_set_self hlen, rfl, rfl⟩) (fun f s6 hsp => ?_) (fun _ _ z => False.elim z)
      cases f with
      | next =>
        obtain ⟨σ6, H6, S6, rfl, rfl⟩ := hsp
        have pin6 := S6.pin (a, oe4) (List.mem_append_left _ List.mem_cons_self)
        have T6 : Inv X pins _ _ s6 := S6.unsuite ok
        have T7 := T6.hold pin6.1 na nL hz4 hd4 aP aB
        exact gone_ok T7 hN hi hln fun s7 J7 => ⟨_, _, J7, hyes rfl a na⟩
      | brk =>
        obtain ⟨σ6, H6, S6, q6⟩ := hsp
        exact False.elim q6
      | cont =>
        obtain ⟨σ6, H6, S6, q6⟩ := hsp
        exact False.elim q6
      | ret u =>
        obtain ⟨v6, σ6, H6, S6, r6, q6⟩ := hsp
        exact False.elim q6
    | false =>
      show wpAny _ X.A (handleBy (.ref a) X.env []) _ _ _
      refine wpAny_handleBy_nil ?_
      obtain ⟨k1, k2, k3, oe, vs, T, oT, ts', he, hz, hd, h1, hr⟩ := id fl3
      unfold PySem.passOn
      refine wpAny_bind (wpAny_field he hd h1 ?_)
      rw [if_neg (show ¬ ((Value.ref T == Value.none) = true) from by simp)]
      have fin : wpAny (model X.prog X.w) X.A (setFlight (.ref a) X.env.frame) (fun _ s4 => wpAny (model X.prog X.w) X.A (throw (.ref a) : Sem Flow) (SP X pins D) X.xe s4) X.xe { s' with heap := h3 } := by
        rw [hf]
        refine HandSPX.setFlight_upZ fl3 fun h4 hh4 up4 => wpAny_throw (tk _ _ ?_)
        exact ⟨a, B, sI, pins, σ', H', cls, d, rfl, J, nb, (up.trans up3).trans up4, .inr (.inr (by rw [hs]; exact hh4)), na, os, ag, hno rfl⟩
      first
        | exact wpAny_bind (wpAny_pure (wpAny_bind fin))
        | exact wpAny_bind fin
  · cases f with
    | next =>
      obtain ⟨σ', H', J', q⟩ := hsp
      exact wpAny_execs_nil ⟨σ', H', J'.ofTry ok, q⟩
    | brk =>
      obtain ⟨σ', H', J', q⟩ := hsp
      exact ⟨σ', H', J'.ofTry ok, q⟩
    | cont =>
      obtain ⟨σ', H', J', q⟩ := hsp
      exact ⟨σ', H', J'.ofTry ok, q⟩
    | ret u =>
      obtain ⟨v, σ', H', J', r, q⟩ := hsp
      exact ⟨v, σ', H', J'.ofTry ok, r, q⟩
end
end L2

set_option Elab.async false
set_option linter.all false
set_option maxRecDepth 100000
set_option maxHeartbeats 4000000
/-! Lay25: try and raise. -/
namespace NV
open PySem PySem.Spec PyProof.Rows L2
/-- how an exception lies -/
def ZX (K : PySem.W.Frag) (ks : List Nat) : Exn → Value → Option Addr → Hp → Prop := fun x cls d G => x.k ∈ ks ∧ ∃ (C : Addr) (vs : List V), cls = .ref C ∧ ExcAt K x.k C ∧ ExF G d vs ∧ Reps K G vs x.m
section
variable {K : PySem.W.Frag} {π : Nat → Addr} {ρ ρ0 : Env} {G G0 Gx G' : Hp} {σ σ0 : St} {H H0 H' : Hp} {c : Lv} {i : Nat} {d : D}
theorem SE.un (S : SE K π ρ G σ H) (i : Nat) (o : Option V) : SE K π (ρ.set i .un) G (σ.set i o) H ∧ Ext ρ σ G H (ρ.set i .un) (σ.set i o) G H := by
  have off : ∀ {j : Nat} {t : Sl}, (ρ.set i .un)[j]? = some t → t.owned = true → j ≠ i ∧ ρ[j]? = some t := fun {j t} h1 o1 => by
    rcases getset h1 with ⟨_, _, rfl⟩ | ⟨ne, h⟩
    · cases o1
    · exact ⟨ne, h⟩
  refine ⟨⟨S.sub, by rw [List.length_set, List.length_set]; exact S.len, fun j t h => ?_, fun j k b s t h1 h2 o1 o2 q1 q2 => ?_⟩, fun b ob h n => ⟨h, fun ⟨j, t, h1, o1, h2⟩ => ?_, fun z => z⟩⟩
  · rcases getset h with ⟨_, _, rfl⟩ | ⟨ne, h⟩
    · trivial
    · rw [List.getElem?_set_ne (Ne.symm ne)]; exact S.ok j t h
  · obtain ⟨n1, h1⟩ := off h1 o1
    obtain ⟨n2, h2⟩ := off h2 o2
    rw [List.getElem?_set_ne (Ne.symm n1)] at q1
    rw [List.getElem?_set_ne (Ne.symm n2)] at q2
    exact S.inj j k b s t h1 h2 o1 o2 q1 q2
  · obtain ⟨n1, h1⟩ := off h1 o1
    rw [List.getElem?_set_ne (Ne.symm n1)] at h2
    exact n ⟨j, t, h1, o1, h2⟩
end
section
variable {X : Cx} {ks : List Nat} {x n y : Str} {cv : Value} {body : List Stmt} {np pos pos' p1 p2 p3 : Pos} {W : WX} {B : Es}
theorem rs_try (i j : Nat) (hs : X.stack = X.env :: X.outer) (hf : X.env.frame = some X.env.locals) (hN : X.N.Nodup) (hi : X.N[i]? = some n) (hj : X.N[j]? = some y) (hij : i ≠ j) (hln : X.env.kindOf n = some .local) (hlv : X.env.scope.names.lookup n = some .local) (hly : Loc X.env.scope y) (hc : Names X x cv) (tk : Takes X W)
    (hex : ∀ k ∈ ks, ∀ C, ExcAt X.K k C → PySem.W.exmOne X.K (.ref C) cv = some true)
    (hb : ∀ (W : WX) (pn : List (Addr × Obj)) (xe : Value → Shared → Prop), Takes (X.tr pn xe) W → PassesOwn (model X.prog X.w) X.A X.env xe → PSs (X.tr pn xe) body (tS X.K ⟨ZX X.K ks, W⟩ B))
    (hsw : swapsWith (.Name n p2) (some (.Name y p1)) p3.line X.env = pure false := by rfl) (hfy : X.env.scope.names.lookup y = some .local := by rfl) (hd : (n == ("__debug__" : Str)) = false := by decide) (hcd : (n == ("__classdict__" : Str)) = false := by decide) :
    PS X (.Try body [.ExceptHandler (some (.Name x np)) (some n) [.Assign [.Name y p1] (.Name n p2) p3] pos'] [] [] pos) (tS X.K ⟨ZX X.K ks, W⟩ (sTryK i j B)) :=
  PS_imp (ps_try_keep (tb := fun W => tS X.K ⟨ZX X.K ks, W⟩ B) hs hf hN hi hj hij hln hlv hly hc tk hb hsw hfy hd hcd) fun D σ H q => by
    obtain ⟨π, ρ, G, S, k⟩ := q
    refine ⟨π, ρ, G, S, ?_⟩
    unfold sTryK at k
    cases z : B ρ with
    | st => rw [z] at k; exact k
    | ok fl ρ' =>
      rw [z] at k
      cases fl with
      | nx => exact k
      | brk => exact k
      | cnt => exact k
      | ret r => exact k
    | rz xx ρ' =>
      rw [z] at k
      intro cls d σ' G' H' s' e' S' hz
      obtain ⟨hk, C, vs, rfl, hC, hf2, hr⟩ := hz
      refine ⟨true, hex _ hk _ hC, fun _ a na => ?_, fun q => Bool.noConfusion q⟩
      have g := Grow.tr (o := exv (.ref C) d a) S'.sub na
      obtain ⟨S1, e1⟩ := S'.grow g
      obtain ⟨S2, e2⟩ := S1.un i (some (.ref a))
      have rep : Rep X.K (upd G' a (exv (.ref C) d a)) (.ref a) (.exc xx.k xx.m) := .exc hC upd_same (hf2.mono g.g) (Reps.mono g.g _ _ hr)
      obtain ⟨S3, e3⟩ := S2.set rep j
      obtain ⟨S4, e4⟩ := S3.un i none
      exact k _ _ _ (s'.trans g.g) (((e'.trans e1).trans e2).trans (e3.trans e4)) S4
end
/-! ### raise -/
/-- what __init__ of the own class with the field 'most' does -/
def spI (C : Addr) : Sp := fun vs H Q _ => ∃ (a : Addr) (v : V), vs = [.ref a, v] ∧ H a = some (exo a C none) ∧ ∀ dx, H dx = none → dx ≠ a → Q .non (upd (upd H dx (exd dx [(("most" : Str), v)])) a (exo a C (some dx)))
section
variable {X : Cx} {ks : List Nat} {x : Str} {p pos pos2 : Pos} {W : WX} {e : Expr} {f : Ev}
theorem rs_raise1 {CX : CXT} {C fI : Addr} {fd : FuncData} (k : Nat) {k0 : Nat} (hc : X.calm = true) (tk : Takes X W) (hk : k ∈ ks) (hC : ExcAt X.K k C) (T : OexC X.K C) (iC : PySem.W.findIn X.K (.ref C) "__init__" = some (some (.ref fI))) (tI : PySem.W.typeIn X.K (.ref fI) = some (.type "function"))
    (F1 : FnOk X.prog X.w X.K X.mg X.base CX k0 fI fd ["self", "most"] (spI C)) (hr : Room (k0 + 1) X.A) (hb : Binds X.K fd ["self", "most"] []) (hx : Passes CX X (fun _ _ _ => False)) (hg : Gl X x) (hm : X.mg x = some (.ref C)) (ha : PE X e (tE X.K ⟨ZX X.K ks, W⟩ f))
    (hdb : (x == ("__debug__" : Str)) = false := by decide) (he : starEach [e] X.env = (false, eval e X.env) :: starEach [] X.env := by rfl) (hpl : (backTo pos (starEach [] X.env)).any (·.1) = false := by rfl) :
    PS X (.Raise (some (.Call (.Name x p) [e] [] pos)) none pos2) (tS X.K ⟨ZX X.K ks, W⟩ (sRaise k (aCons f aNil))) :=
  PS_imp (ps_raise hc tk (pmk_oex (ds := []) (dvs := []) T iC tI F1 hr hb .nil hx hg hm (pa_cons ha pa_nil he) hdb he hpl)) fun D σ H q => by
    obtain ⟨π, ρ, G, S, k⟩ := q
    unfold sRaise aCons at k
    rw [Res.bind_bind] at k
    refine ⟨π, ρ, G, S, (PoS.bind k).mono fun d1 ρ1 G1 H1 s1 e1 S1 k1 w1 r1 => ?_⟩
    refine ⟨by simp, fun a na => ⟨a, w1, rfl, upd_same, fun dx ndx hne => ?_⟩⟩
    rw [upd_ne hne] at ndx
    refine ⟨rfl, dx, [(("most" : Str), w1)], upd_same, by rw [upd_ne hne, upd_same], ndx, ?_⟩
    have eH : upd (del (upd (upd (upd H1 a (exo a C none)) dx (exd dx [(("most" : Str), w1)])) a (exo a C (some dx))) a) dx (.xd [(("most" : Str), w1)]) = upd H1 dx (.xd [(("most" : Str), w1)]) := by
      funext b
      by_cases hb : b = dx
      · subst hb; rw [upd_same, upd_same]
      · rw [upd_ne hb, upd_ne hb]
        by_cases hba : b = a
        · subst hba; rw [del_same, na]
        · rw [del_ne hba, upd_ne hba, upd_ne hb, upd_ne hba]
    rw [eH]
    have g := Grow.tr (o := .xd [(("most" : Str), w1)]) S1.sub ndx
    obtain ⟨S2, e2⟩ := S1.grow g
    exact k1 _ _ σ _ _ g.g e2 S2 ⟨hk, C, [w1], rfl, hC, (.inr ⟨w1, dx, rfl, rfl, upd_same⟩), .cons (r1.mono g.g _) .nil⟩
end
end NV

set_option Elab.async false
set_option linter.all false
set_option maxRecDepth 100000
set_option maxHeartbeats 4000000
/-! Lay26: an own class's __init__; looking at a kept exception. -/
namespace NV
open PySem PySem.Spec PyProof.Rows L2
/-- what the written part says of the class with the field most, and of its base -/
structure TGT (K : PySem.W.Frag) (mg : Str → Option Value) (C Cw fI : Addr) : Prop where
  ox : OexC K C
  iC : PySem.W.findIn K (.ref C) "__init__" = some (some (.ref fI))
  tI : PySem.W.typeIn K (.ref fI) = some (.type "function")
  gC : mg "TooGreat" = some (.ref C)
  gW : mg "WordError" = some (.ref Cw)
  eC : ExcAt K 7 C
  noM : PySem.W.findIn K (.ref C) "most" = some none
  wG : PySem.W.specialIn K (.ref Cw) "__getattribute__" = some (some (.builtin "type.__getattribute__"))
  wR : PySem.W.readsIn K Cw (.type "type") = true
  wI : PySem.W.findCls K (.ref Cw) (.type "type") "__init__" = some (.val (.builtin "ValueError.__init__"))
section
variable {X : Cx} {e : Expr} {es : List Expr} {ta : TA} {p1 p2 pos : Pos} {C Cw fI : Addr}
/-- WordError.__init__(self, ..) -/
theorem pe_ownInit {pl : Sem Bool} (T : TGT X.K X.mg C Cw fI) (hg : Gl X "WordError") (ha : PA X (e :: es) ta)
    (hc : eval (.Call (.Attribute (.Name "WordError" p1) "__init__" p2) (e :: es) [] pos) X.env = (do
      let ov ← eval (.Name "WordError" p1) X.env
      standAt p2.atName
      let (f, first) ← holding [ov] (getMethod ov "__init__" pl)
      callWith pos f first (backTo pos (starEach (e :: es) X.env)) (backToKw pos (keywordEach [] X.env))) := by rfl)
    (he : starEach (e :: es) X.env = (false, eval e X.env) :: starEach es X.env := by rfl) (hpl : (backTo pos (starEach es X.env)).any (·.1) = false := by rfl) :
    PE X (.Call (.Attribute (.Name "WordError" p1) "__init__" p2) (e :: es) [] pos) (tVeI X.K ta) := by
  refine ⟨fun pins s σ H Q I h => ?_⟩
  refine PySem.W.methodCall_KW (ld_glob I hg T.gW ?_) hc
  refine PySem.W.method_cls I.kIn T.wG (PySem.W.cls_value I.kIn T.wR T.wI (by decide +kernel) ?_)
  show wpAny _ _ (callWith pos (Value.builtin "ValueError.__init__") [] (backTo pos (starEach (e :: es) X.env)) []) _ _ _
  refine PyProof.Rows.callWith_method1 (thn (ha.run pos pins _ σ H _ (I.tok _) h) fun us s1 ⟨vs, H1, I1, r1, a, C, ws, ev, hl, T, ea, q⟩ => ?_) he hpl
  subst ev
  cases r1 with
  | @cons _ u0 _ ur ra rw' =>
    obtain rfl : u0 = Value.ref a := ra
    have hlen : ur.length ≤ sizeLine := by
      rw [← Paired.length rw', sizeLine_eq]
      omega
    exact oinit_ok T I1 ea hlen fun s' J => ⟨.non, H1, J, rfl, q⟩
end
/-- __init__'s body -/
def tIni (K : PySem.W.Frag) : TS := tSeq (tDrop (tVeI K (tCons (tVar 0) (tCons (tC (.str "too great")) tNil)))) (tOst K "most" (tVar 0) (tVar 1))
theorem init_ok {P : Program} {w : World} {K : PySem.W.Frag} {mg : Str → Option Value} {base : Heap} {C Cw fI : Addr} {fd : FuncData} {qual : Str} {params : Arguments} {body : List Stmt} {scope : Scope} {dvs : List V} (T : TGT K mg C Cw fI) (F : FunD K "__init__" qual params body scope dvs [] fI fd) (S : FnScope ["self", "most"] ["self", "most"] scope)
    (hb : ∀ (cdv : Value) (A : Around) (outer : List PySem.Env) (s : Shared) (H : Hp) (E : XK), Room 0 (A.deeper (envOfC qual scope s.heap.objs.size fI cdv)) → PSs (cxOf (L2.CX P w) P w K mg base ["self", "most"] qual scope fI cdv A outer s H E) body (tIni K)) :
    FnOk P w K mg base (L2.CX P w) 1 fI fd ["self", "most"] (spI C) := by
  refine F.ok S (fun vs H Q E h => ?_) (fun cdv A outer s H vs Q E hr h => ⟨tIni K, hb cdv A outer s H E hr, ?_⟩)
  · obtain ⟨a, v, rfl, _⟩ := h
    rfl
  · obtain ⟨a, v, rfl, e, k⟩ := h
    exact ⟨.ref a, rfl, a, C, [.str "too great"], rfl, by decide, T.ox, e, v, rfl, .ref a, rfl, a, C, rfl, T.ox, T.noM, .inl ⟨e, fun dx h1 h2 => k dx h1 h2⟩⟩
/-! ### isinstance and the field -/
theorem exc_inst {X : Cx} {pins : List (Addr × Obj)} {σ : St} {H : Hp} {s : Shared} {a C : Addr} {dd : Option Addr} {vs : List V} (I : Inv X pins σ H s) (h : H a = some (exv (.ref C) dd a)) (F : ExF H dd vs) : ∃ oe od, PySem.W.InstAt s.heap a oe C od := by
  obtain ⟨⟨oe, fs, h1, h2, h3⟩, _⟩ := (show ObjOk X.prog X.w H s.heap a (exv (.ref C) dd a) from I.hok a _ h)
  have no : PySem.W.notCls oe = true := by unfold PySem.W.notCls; rw [h3]
  rcases F with ⟨_, rfl⟩ | ⟨v, d, _, rfl, hd⟩
  · exact ⟨oe, none, h1, h2.1, no, by rw [h2.2]; trivial⟩
  · obtain ⟨mA, ⟨o, es, ep, e1, _⟩, _⟩ := (show ObjOk X.prog X.w H s.heap d (.xd _) from I.hok d _ hd)
    exact ⟨oe, some o, h1, h2.1, no, by rw [h2.2]; exact e1⟩
theorem kitx_own {K : PySem.W.Frag} {x C : Addr} {ox : Obj} {od : Option Obj} (c : ExcC K C) : PySem.W.KitX K (.ref x) (.ref C) (fun h => PySem.W.InstAt h x ox C od) :=
  PySem.W.kitx_exc (by obtain ⟨cd, hc, _⟩ := PySem.W.any_some c.hd; rw [hc]; rfl) c.hg c.hk c.hs c.ha c.hn c.ht c.hm
def rIsX (K : PySem.W.Frag) : List V → Hp → VK → Prop := fun xs H Q => ∃ (a C : Addr) (dd : Option Addr) (vs : List V) (c : V) (u : Value) (b : Bool), xs = [.ref a, c] ∧ ClsV c u ∧ H a = some (exv (.ref C) dd a) ∧ ExF H dd vs ∧ ExcC K C ∧ PySem.W.kitOne K (.ref C) u = some b ∧ Q (.bl b) H
def rIsXT (K : PySem.W.Frag) : List V → Hp → VK → Prop := fun xs H Q => ∃ (a C : Addr) (dd : Option Addr) (vs : List V) (tp : Addr) (cs : List V) (us : List Value) (b : Bool), xs = [.ref a, .ref tp] ∧ H tp = some (.tup cs) ∧ Paired ClsV cs us ∧ H a = some (exv (.ref C) dd a) ∧ ExF H dd vs ∧ ExcC K C ∧ PySem.W.kitAny K (.ref C) us = some b ∧ Q (.bl b) H
section
variable {X : Cx}
theorem call_isX : CallR X (.builtin "isinstance") (rIsX X.K) := by
  intro pins s σ H xs us Q I r h
  obtain ⟨a, C, dd, vs, c, u, b, rfl, k, ha, hf, hc, e, q⟩ := h
  obtain ⟨u1, u2, rfl, r1, r2⟩ := vals2 r
  have e2 := k.eq r2
  subst e2
  obtain rfl : u1 = Value.ref a := r1
  obtain ⟨oe, od, J⟩ := exc_inst I ha hf
  exact PySem.W.kia_one (kitx_own hc) I.kIn J e (fun z => nomatch z) fun tk => ⟨.bl b, H, I.tok tk, rfl, q⟩
theorem call_isXT : CallR X (.builtin "isinstance") (rIsXT X.K) := by
  intro pins s σ H xs us Q I r h
  obtain ⟨a, C, dd, vs, tp, cs, ws, b, rfl, hT, k, ha, hf, hc, e, q⟩ := h
  obtain ⟨u1, u2, rfl, r1, r2⟩ := vals2 r
  cases (show u2 = Value.ref tp from r2)
  obtain rfl : u1 = Value.ref a := r1
  obtain ⟨oe, od, J⟩ := exc_inst I ha hf
  obtain ⟨_, its, rv, o, h1, h2, n, h3⟩ := (show ObjOk X.prog X.w H s.heap tp (.tup cs) from I.hok tp _ hT)
  have e3 := ClsV.all k rv
  subst e3
  obtain ⟨oc, od', dt, sl⟩ := o
  simp only at h2 h3
  subst h2 h3
  exact PySem.W.kia_tup (kitx_own hc) I.kIn J h1 e (fun z => nomatch z) fun tk => ⟨.bl b, H, I.tok tk, rfl, q⟩
end
end NV

set_option Elab.async false
set_option linter.all false
set_option maxRecDepth 100000
set_option maxHeartbeats 4000000
/-! Lay27: what is asked of a kept exception. -/
namespace NV
open PySem PySem.Spec PyProof.Rows L2
/-- the class that the number names -/
def clsU (A : Nat → Addr) (n : Nat) : Value := if n = 8 then .type "ValueError" else .ref (A n)
/-- what the written part says of the own classes: ks those that are raised, ns those that are asked for -/
structure XT (K : PySem.W.Frag) (mg : Str → Option Value) (ks ns : List Nat) (A : Nat → Addr) : Prop where
  at' : ∀ k ∈ ks, ExcAt K k (A k)
  exc : ∀ k ∈ ks, ExcC K (A k)
  exm : ∀ k ∈ ks, PySem.W.exmOne K (.ref (A k)) (.ref (A 0)) = some true
  kit : ∀ k ∈ ks, ∀ n ∈ ns, PySem.W.kitOne K (.ref (A k)) (clsU A n) = some (subX k n)
  noM : ∀ k ∈ ks, PySem.W.findIn K (.ref (A k)) "most" = some none
section
variable {X : Cx} {ks ns : List Nat} {A : Nat → Addr} {c : Lv} {e ce ce2 : Expr} {f : Ev} {pos p pt : Pos}
theorem XT.eq {K : PySem.W.Frag} {mg : Str → Option Value} (T : XT K mg ks ns A) {k : Nat} {C : Addr} (hk : k ∈ ks) (h : ExcAt K k C) : C = A k := by
  have := T.at' k hk
  unfold ExcAt at h this
  rw [h] at this
  exact Value.ref.inj (Option.some.inj (Option.some.inj this))
theorem XT.hex {K : PySem.W.Frag} {mg : Str → Option Value} (T : XT K mg ks ns A) : ∀ k ∈ ks, ∀ C, ExcAt K k C → PySem.W.exmOne K (.ref C) (.ref (A 0)) = some true := fun k hk C h => by
  rw [T.eq hk h]; exact T.exm k hk
/-- a class as an expression -/
def ClsE (X : Cx) (e : Expr) (u : Value) : Prop := ∃ cv, PE X e (tC cv) ∧ ClsV cv u
theorem clsE_own {x : Str} (n : Nat) (hn : n < 8) (hg : Gl X x) (hm : X.mg x = some (.ref (A n))) (hd : (x == ("__debug__" : Str)) = false := by decide) : ClsE X (.Name x p) (clsU A n) := by
  unfold clsU
  rw [if_neg (by omega)]
  exact ⟨.ref (A n), pe_glob hg hm rfl hd, .own _⟩
theorem clsE_VE (hg : Gl X "ValueError") (hm : X.mg "ValueError" = none) : ClsE X (.Name "ValueError" p) (clsU A 8) := ⟨.ty "ValueError", pe_bltn hg hm rfl rfl (by decide) (by decide), .ty _⟩
theorem opIsX_of {n : Nat} {d1 d : D} (h : opIsX ks n d1 = some d) : ∃ k m, d1 = .exc k m ∧ k ∈ ks ∧ d = .bl (subX k n) := by
  unfold opIsX at h
  split at h
  · rename_i k m
    split at h
    · rename_i hk
      exact ⟨k, m, rfl, hk, (Option.some.inj h).symm⟩
    · cases h
  · cases h
theorem opIsX2_of {n m' : Nat} {d1 d : D} (h : opIsX2 ks n m' d1 = some d) : ∃ k m, d1 = .exc k m ∧ k ∈ ks ∧ d = .bl (subX k n || subX k m') := by
  unfold opIsX2 at h
  split at h
  · rename_i k m
    split at h
    · rename_i hk
      exact ⟨k, m, rfl, hk, (Option.some.inj h).symm⟩
    · cases h
  · cases h
theorem opMost_of {d1 d : D} (h : opMost ks d1 = some d) : ∃ k, d1 = .exc k [d] ∧ k ∈ ks := by
  unfold opMost at h
  split at h
  · rename_i k m
    split at h
    · rename_i hk
      obtain rfl := Option.some.inj h
      exact ⟨k, rfl, hk⟩
    · cases h
  · cases h
/-- isinstance(e, C) -/
theorem re_isX (T : XT X.K X.mg ks ns A) (n : Nat) (hn : n ∈ ns) (hg : Gl X "isinstance") (hm : X.mg "isinstance" = none) (ha : PE X e (tE X.K c f)) (hc : ClsE X ce (clsU A n))
    (he : starEach [e, ce] X.env = (false, eval e X.env) :: starEach [ce] X.env := by rfl) (he2 : starEach [ce] X.env = (false, eval ce X.env) :: starEach [] X.env := by rfl) (hpl : (backTo pos (starEach [ce] X.env)).any (·.1) = false := by rfl) :
    PE X (.Call (.Name "isinstance" p) [e, ce] [] pos) (tE X.K c (e1 (opIsX ks n) f)) := by
  obtain ⟨cv, hce, hcv⟩ := hc
  refine PE_imp (pe_callB call_isX hg hm rfl (pa_cons ha (pa_cons hce pa_nil he2) he) (by decide) (by decide) he hpl) fun σ H Q q => ?_
  obtain ⟨π, ρ, G, S, k⟩ := q
  refine ⟨π, ρ, G, S, (Po.bind k).mono fun d1 ρ1 G1 H1 s1 e1' S1 k1 w1 r1 => ?_⟩
  obtain ⟨d, hd⟩ := some_of k1
  have fin := fin_of S1 hd k1
  obtain ⟨k, m, rfl, hk, rfl⟩ := opIsX_of hd
  cases r1 with
  | exc h1 h2 h3 h4 =>
    obtain rfl := T.eq hk h1
    exact ⟨_, _, _, _, _, _, _, rfl, hcv, S1.sub _ _ h2, h3.mono S1.sub, T.exc k hk, T.kit k hk n hn, fin.bl S1.sub⟩
/-- isinstance(e, (C1, C2)) -/
theorem re_isX2 {kt : Nat} (T : XT X.K X.mg ks ns A) (n m : Nat) (hn : n ∈ ns) (hm' : m ∈ ns) (hg : Gl X "isinstance") (hm : X.mg "isinstance" = none) (ha : PE X e (tE X.K c f)) (hc : ClsE X ce (clsU A n)) (hc2 : ClsE X ce2 (clsU A m))
    (ht1 : starEach [ce, ce2] X.env = (false, eval ce X.env) :: starEach [ce2] X.env := by rfl) (ht2 : starEach [ce2] X.env = (false, eval ce2 X.env) :: starEach [] X.env := by rfl)
    (he : starEach [e, .Tuple [ce, ce2] kt pt] X.env = (false, eval e X.env) :: starEach [.Tuple [ce, ce2] kt pt] X.env := by rfl) (he2 : starEach [.Tuple [ce, ce2] kt pt] X.env = (false, eval (.Tuple [ce, ce2] kt pt) X.env) :: starEach [] X.env := by rfl) (hpl : (backTo pos (starEach [.Tuple [ce, ce2] kt pt] X.env)).any (·.1) = false := by rfl) :
    PE X (.Call (.Name "isinstance" p) [e, .Tuple [ce, ce2] kt pt] [] pos) (tE X.K c (e1 (opIsX2 ks n m) f)) := by
  obtain ⟨cv, hce, hcv⟩ := hc
  obtain ⟨cv2, hce2, hcv2⟩ := hc2
  refine PE_imp (pe_callB call_isXT hg hm rfl (pa_cons ha (pa_cons (pe_tup (pa_cons hce (pa_cons hce2 pa_nil ht2) ht1)) pa_nil he2) he) (by decide) (by decide) he hpl) fun σ H Q q => ?_
  obtain ⟨π, ρ, G, S, k⟩ := q
  refine ⟨π, ρ, G, S, (Po.bind k).mono fun d1 ρ1 G1 H1 s1 e1' S1 k1 w1 r1 => ?_⟩
  obtain ⟨d, hd⟩ := some_of k1
  have fin := fin_of S1 hd k1
  obtain ⟨k, ms, rfl, hk, rfl⟩ := opIsX2_of hd
  cases r1 with
  | exc h1 h2 h3 h4 =>
    obtain rfl := T.eq hk h1
    refine ⟨by rw [sizeLine_eq]; exact (by decide : 2 ≤ 16777216), fun tp ntp => ?_⟩
    have g := Grow.tr (o := .tup [cv, cv2]) S1.sub ntp
    have ka : PySem.W.kitAny X.K (.ref (A k)) [clsU A n, clsU A m] = some (subX k n || subX k m) := by
      refine kitAny_cons (T.kit k hk n hn) (fun z => ?_) fun z => by rw [z]; rfl
      rw [z, Bool.false_or]
      exact kitAny_cons (T.kit k hk m hm') (fun y => by rw [y]; exact kitAny_nil) fun y => by rw [y]
    exact ⟨_, _, _, _, tp, [cv, cv2], _, _, rfl, upd_same, .cons hcv (.cons hcv2 .nil), g.h _ _ (S1.sub _ _ h2), (h3.mono S1.sub).mono g.h, T.exc k hk, ka, fin (.bl _) _ _ g (.bl _)⟩
/-- e.most -/
theorem re_most (T : XT X.K X.mg ks ns A) (ha : PE X e (tE X.K c f)) (hb : attributeBase e "most" X.env (eval e X.env) = eval e X.env := by rfl) : PE X (.Attribute e "most" pos) (tE X.K c (e1 (opMost ks) f)) := by
  refine ⟨fun pins s σ H Q I h => ?_⟩
  obtain ⟨π, ρ, G, S, k⟩ := h
  refine attr_of hb (thn (ha.run pins s σ H (fun w1 H1 => ∃ π ρ1 G1 d1, SE X.K π ρ1 G1 σ H1 ∧ Rep X.K G1 w1 d1 ∧ Po X.K c π ρ1 G1 σ H1 (out (opMost ks d1) ρ1) (JE X.K Q)) I ⟨π, ρ, G, S, (Po.bind k).mono fun d1 ρ1 G1 H1 s1 e1' S1 k1 w1 r1 => ⟨π, ρ1, G1, d1, S1, r1, k1⟩⟩) fun u s1 hh => ?_)
  obtain ⟨w1, H1, I1, rx, π1, ρ1, G1, d1, S1, r1, k1⟩ := hh
  obtain ⟨d, hd⟩ := some_of k1
  have fin := fin_of S1 hd k1
  obtain ⟨k, rfl, hk⟩ := opMost_of hd
  cases r1 with
  | @exc a C dd _ _ vs h1 h2 h3 h4 =>
    obtain rfl := T.eq hk h1
    have tc := T.exc k hk
    obtain rfl : u = Value.ref a := rx
    obtain ⟨⟨oe, fs, g1, g2, g3⟩, _⟩ := (show ObjOk X.prog X.w H1 s1.heap a (exv (.ref (A k)) dd a) from I1.hok a _ (S1.sub _ _ h2))
    cases h4 with
    | cons r4 r5 =>
      cases r5
      rcases h3 with ⟨z, _⟩ | ⟨v, dx, z, rfl, hx⟩
      · cases z
      · obtain ⟨rfl, _⟩ := List.cons.inj z
        obtain ⟨mA, hns, hr⟩ := (show ObjOk X.prog X.w H1 s1.heap dx (.xd _) from I1.hok dx _ (S1.sub _ _ hx))
        obtain ⟨od, ho, hl⟩ := lookIn_ns hns
        obtain ⟨u, hu, ru⟩ := RelO.some_of (v := _) (o := mA "most") (by simpa [List.lookup] using hr "most")
        have J : PySem.W.InstAt s1.heap a oe (A k) (some od) := ⟨g1, g2.1, by unfold PySem.W.notCls; rw [g3], by rw [g2.2]; exact ho⟩
        exact HandSPX.exc_get I1.kIn J tc.hg tc.hk tc.hs (PySem.W.findObj_own tc.hd (T.noM k hk) rfl (by rw [hl, hu])) (handed_of ru) ⟨_, H1, I1.tok _, ru, fin _ _ _ (Grow.refl S1.sub) r4⟩
end
end NV
namespace NV
open PySem PySem.Spec PyProof.Rows L2
def clsBody (s : Stmt) : List Stmt := match s with
  | .ClassDef _ _ _ b _ _ _ _ _ _ _ => b
  | _ => []
theorem passes_F {X : Cx} : Passes (L2.CX X.prog X.w) X (fun _ _ _ => False) := fun _ _ _ _ _ _ _ h => by
  obtain ⟨_, _, _, _, _, _, _, _, _, _, _, _, z⟩ := h
  exact z.elim
theorem init_binds {K : PySem.W.Frag} {x qual : Str} {params : Arguments} {body : List Stmt} {scope : Scope} {f : Addr} {fd : FuncData} (F : FunD K x qual params body scope [.non] [] f fd)
    (h : ∀ (T : Addr) (kV doc pm : Value) (an : Option Addr) (cdv ct : Value) (us its : List Value), us.length = 2 → its.length = [V.non].length →
      ∃ k, bindArgs (PySem.W.fnOf x qual params body scope (.ref T) kV doc pm an cdv ct) ⟨us, []⟩ = seqItems? (.ref T) >>= k ∧ k (some its.toArray) = pure ((["self", "most"] : List Str).zip (us ++ its.drop 1))) : Binds K fd ["self", "most"] [] := by
  obtain ⟨ds, hv, hb⟩ := F.binds1 (ps := ["self", "most"]) 2 1 (by simp) rfl h
  cases hv
  exact hb
end NV
namespace NV
open PySem PySem.Spec PyProof.Rows L2
/-- a promise with exceptions told -/
def spX (K : PySem.W.Frag) (ks : List Nat) (n : Nat) (s : Df) : Sp := spD K (ZX K ks) n s
theorem law_spX {K : PySem.W.Frag} {ks : List Nat} {s : Df} {H : Hp} {a : Addr} {ns : List Int} {as : Env} (hS : SqL K H a (ns.map V.int)) (h : s [.v (.scr (ns.map D.int))] = .ok (.v (.bl true)) as) :
    spX K ks 1 s [.ref a] H (fun v _ => v = .bl true) fun _ _ _ => False := law_sp (Z := ZX K ks) hS h
end NV

set_option Elab.async false
set_option linter.all false
set_option maxRecDepth 100000
set_option maxHeartbeats 4000000
/-! Lay28: raise of a class without own __init__. -/
namespace L2
open PySem PySem.Spec PyProof.Rows
/-- X(), X an own exception class without own __init__ -/
theorem pmk_own0 {X : Cx} {pos : Pos} {C : Addr} {bmB : List Value} {B newId initId : String} {x : Str} {p : Pos} (F : ExcBaseFacts B newId initId bmB) (q : PySem.W.excIn X.K C bmB newId = true) (gC : X.mg x = some (.ref C))
    (kC : PySem.W.keepIn X.K (.ref C) = true) (r : Raises X (.ref C)) (hg : Gl X x) (hdb : (x == ("__debug__" : Str)) = false := by decide) :
    PMk X (.Call (.Name x p) [] [] pos) (fun σ H Q => Q (.ref C) none H) := by
  intro pins s σ H Q I h
  refine wpAny_Call_Name_kw (ld_glob I hg gC ?_ hdb)
  refine PySem.W.callWith_K0 I.kIn kC ?_
  show wpAny _ _ (call (.ref C) []) _ _ _
  obtain ⟨bm, N, nm, qn, bs, hdct, sn, sub, ab, col, dd, k0, k1, k2, k3, k5, mN, hC, hN, hni, T⟩ := exc_obj I.kIn q
  refine wpAny_call_exc_subT F T hC hN hni (fun h' e hm => ?_) (Nat.zero_le _)
  exact mk_of I hm r h (I.hok.gone hm.new)
end L2
namespace NV
open PySem PySem.Spec PyProof.Rows L2
abbrev veBs : List Value := [.type "ValueError", .type "Exception", .type "BaseException", .type "object"]
/-- what the written part says of such a class -/
structure X0 (K : PySem.W.Frag) (C : Addr) : Prop where
  q : PySem.W.excIn K C veBs "ValueError.__new__" = true
  kC : PySem.W.keepIn K (.ref C) = true
  exC : PySem.W.subIn K (.ref C) (.type "BaseException") = some true
  tyC : PySem.W.typeIn K (.ref C) = some (.type "type")
theorem rs_raise0 {X : Cx} {ks : List Nat} {x : Str} {p pos pos2 : Pos} {W : WX} {C : Addr} (k : Nat) (hc : X.calm = true) (tk : Takes X W) (hk : k ∈ ks) (hC : ExcAt X.K k C) (T : X0 X.K C) (hg : Gl X x) (hm : X.mg x = some (.ref C)) (hdb : (x == ("__debug__" : Str)) = false := by decide) :
    PS X (.Raise (some (.Call (.Name x p) [] [] pos)) none pos2) (tS X.K ⟨ZX X.K ks, W⟩ (sRaise k aNil)) :=
  PS_imp (ps_raise hc tk (pmk_own0 F.excBase_ValueError T.q hm T.kC (raises_own T.exC T.tyC) hg hdb)) fun D σ H q => by
    obtain ⟨π, ρ, G, S, k⟩ := q
    exact k _ _ σ G H (Same.refl _) Ext.refl S ⟨hk, C, [], rfl, hC, .inl ⟨rfl, rfl⟩, .nil⟩
end NV

set_option Elab.async false
set_option linter.all false
set_option maxRecDepth 100000
set_option maxHeartbeats 2000000
/-! Lay29: a tuple written at the program's top, read as a value. -/
namespace NV
open PySem PySem.Spec PyProof.Rows L2
def GTup (K : PySem.W.Frag) (mg : Str → Option Value) (x : Str) (d : D) : Prop := ∃ a, mg x = some (.ref a) ∧ ∀ H, Rep K H (.ref a) d
theorem gt_mk {K : PySem.W.Frag} {mg : Str → Option Value} {x : Str} {a : Addr} {od : Option Addr} {its : List Value} {n : Nat} {sl : Array (Option Value)} {vs : List V} {ds : List D} (hm : mg x = some (.ref a)) (l : K.lookup a = some ⟨.type "tuple", od, .seq its.toArray n, sl⟩)
    (le : its.length ≤ 64) (hv : Vals vs its) (hr : ∀ H, Reps K H vs ds) : GTup K mg x (.tup ds) :=
  ⟨a, hm, fun H => .tup (.inr ⟨_, its.toArray, n, l, rfl, rfl, by
    have e : sizeLine = 16777216 := sizeLine_eq
    have e2 : its.toArray.size = its.length := List.size_toArray
    omega, by simpa using hv⟩) (hr H)⟩
section
variable {X : Cx} {c : Lv} {pos : Pos} {x : Str}
theorem gT {d : D} (hg : Gl X x) (h : GTup X.K X.mg x d) (hd : (x == ("__debug__" : Str)) = false := by decide) : PE X (.Name x pos) (tE X.K c (eC d)) := by
  obtain ⟨a, hm, hr⟩ := h
  exact re_glob (v := .ref a) hg hm rfl hr hd
end
end NV

set_option Elab.async false
set_option linter.all false
set_option maxRecDepth 100000
set_option maxHeartbeats 4000000
/-! Lay30: reversed over a text. -/
namespace NV
open PySem PySem.Spec PyProof.Rows L2
theorem norev_str : typeLookup (.type "str") "__reversed__" = pure none := by rw [typeLookup_type, builtinLookup_eq_fast]; kernel_rfl
theorem get_str : typeLookup (.type "str") "__getitem__" = pure (some (.builtin "str.__getitem__")) := by rw [typeLookup_type, builtinLookup_eq_fast]; kernel_rfl
def rsObj (v : Value) (i : Int) : Obj := { cls := .type "reversed", data := .fields #[v, rawInt i] }
/-- reversed(v), the next place i -/
def IsRs (h : Heap) (a : Addr) (v : Value) (i : Int) : Prop := ∃ o, h.get? a = some o ∧ o.cls = .type "reversed" ∧ o.data = .fields #[v, rawInt i]
theorem IsRs.at {h h' : Heap} {a : Addr} {v : Value} {i : Int} (x : IsRs h a v i) (e : ∀ o, h.get? a = some o → h'.get? a = some o) : IsRs h' a v i := let ⟨o, ho, r⟩ := x; ⟨o, e _ ho, r⟩
section
variable {prog : Program} {w : World} {A : Around} {E : Value → Shared → Prop} {s : Shared} {x : Str} {t : Tok}
theorem IsRs.typeIs {a : Addr} {v : Value} {i : Int} (x : IsRs s.heap a v i) : s.TypeIs (.ref a) "reversed" := let ⟨o, ho, hc, _⟩ := x; ⟨o, ho, hc⟩
theorem code_reversed_str {Q₁ : Value → Shared → Prop}
    (hlen : ∀ (A : Around) (E : Value → Shared → Prop) (Q : Value → Shared → Prop), Q (.int x.length (s.toks + 1)) { s with toks := s.toks + 1 + 1 } → wpAny (model prog w) A (call (.builtin "len") [.str x t]) Q E s)
    (h : Q₁ (.ref s.heap.objs.size) { s with heap := s.heap.push (rsObj (.str x t) ((x.length : Int) - 1)), toks := s.toks + 1 + 1 }) :
    codeAny (model prog w) A (.call (.builtin "reversed.__new__") ⟨[.type "reversed", .str x t], []⟩) (wants Q₁ E) s := by
  have hT : s.TypeIs (.str x t) "str" := typeIs_str s x t
  refine codeAny_of_tree ?_
  show wpAny _ A.in1 (do checkBuiltinCall "reversed.__new__" ⟨[.type "reversed", .str x t], []⟩; again (.builtin "reversed.__new__" ⟨[.type "reversed", .str x t], []⟩)) _ _ s
  refine wpAny_bind (wpAny_of_eq (F.newCall_reversed_1 _) (wpAny_pure ⟨plainId_quiet F.plain_reversed_new _, codeAny_builtin F.entry_reversed_new ?_⟩))
  rw [Around.under_plainId F.plain_reversed_new _]
  unfold Builtin.«reversed.__new__»
  refine wpAny_bind (wpAny_of_eq (newClass_reversed _) ?_)
  try dsimp only
  refine wpAny_bind (wpAny_of_eq (a := ()) (by first | rfl | kernel_rfl) ?_)
  try dsimp only
  refine wpAny_bind (wpAny_of_eq (a := ()) (by first | rfl | kernel_rfl) ?_)
  try dsimp only
  refine wpAny_bind (wpAny_specialOf hT norev_str ?_)
  try dsimp only
  refine wpAny_bind ?_
  wp_delta
  refine wpAny_bind (wpAny_isInstance (T := "str") (U := "dict") (b := false) hT (by rw [isSubtype_type]; kernel_rfl) ?_)
  try dsimp only
  try rw [if_neg Bool.false_ne_true]
  try dsimp only
  refine wpAny_bind (wpAny_specialOf hT get_str ?_)
  try dsimp only
  try rw [if_pos (by decide +kernel)]
  refine wpAny_pure ?_
  try dsimp only
  try rw [if_neg (by decide)]
  try dsimp only
  refine wpAny_bind (hlen _ _ _ ?_)
  refine wpAny_bind (wpAny_of_eq (a := some ((x.length : Nat) : Int)) rfl ?_)
  try dsimp only
  refine wpAny_bind ?_
  show wpAny _ _ (newObj (.type "reversed") (.fields #[.str x t, rawInt ((x.length : Int) - 1)])) _ _ _
  refine wpAny_newObj_type ?_
  exact wpAny_pure h
theorem call_reversed_str {Q : Value → Shared → Prop}
    (hlen : ∀ (A : Around) (E : Value → Shared → Prop) (Q : Value → Shared → Prop), Q (.int x.length (s.toks + 1)) { s with toks := s.toks + 1 + 1 } → wpAny (model prog w) A (call (.builtin "len") [.str x t]) Q E s)
    (h : Q (.ref s.heap.objs.size) { s with heap := s.heap.push (rsObj (.str x t) ((x.length : Int) - 1)), toks := s.toks + 1 + 1 }) : wpAny (model prog w) A (call (.type "reversed") [.str x t]) Q E s := by
  refine callType_codes (Q₁ := fun obj s₁ => s₁.TypeIs obj "reversed" ∧ Q obj s₁) RT.called_rt (F.typeCall_reversed_1 _) F.entry_object_init
    (code_reversed_str (A := A.in1) hlen ⟨⟨_, Heap.get?_push_size _ rfl, rfl⟩, h⟩) fun obj s₁ h₁ => ?_
  exact ⟨h₁.1, F.args_object_init_2 obj _, object_init_meets RT.called_rt.init.lookup RT.called_rt.made (by decide) prog w A.in1 _ s₁ ⟨h₁.1, rfl, h₁.2⟩⟩
theorem next_rs_item {it : Addr} {i c : Nat} {Q : Option Value → Shared → Prop} (hit : IsRs s.heap it (.str x t) (i : Int)) (hx : x.cps[i]? = some c) (hsz : x.length ≤ sizeLine)
    (hQ : ∀ h', IsRs h' it (.str x t) ((i : Int) - 1) → Heap.SameBut it s.heap h' → Q (some (.str ⟨#[c]⟩ (s.toks + 1))) { s with heap := h', toks := s.toks + 1 + 1 }) : wpAny (model prog w) A (pyNext (.ref it)) Q E s := by
  obtain ⟨o, ho, hc, hd⟩ := id hit
  have hi : i < x.cps.size := (Array.getElem?_eq_some_iff.mp hx).1
  have hT : s.TypeIs (.str x t) "str" := typeIs_str s x t
  rw [sizeLine_eq] at hsz
  have hl : x.length = x.cps.size := rfl
  unfold pyNext
  refine wpAny_bind (wpAny_attempt (wpAny_callSpecial?_slot (name := Str.ofString "__next__") hit.typeIs RT.slot_rt_next
    (wpAny_call_entry RT.slot_rt_next hit.typeIs RT.entry_rt_next ?_ (RT.args_rt_next _))))
  unfold Builtin.«reversed.__next__»
  refine wpAny_bind (wpAny_of_eq (a := (Value.ref it, [])) rfl ?_)
  try dsimp only
  refine wpAny_bind (wpAny_field ho hd (x := .str x t) rfl ?_)
  try dsimp only
  refine wpAny_bind (wpAny_field ho hd (x := rawInt (i : Int)) rfl ?_)
  show wpAny _ _ (if (i : Int) < 0 then _ else _) _ _ s
  rw [if_neg (by omega)]
  try dsimp only
  refine wpAny_bind (wpAny_specialOf hT get_str ?_)
  try dsimp only
  try rw [if_neg (by decide)]
  try dsimp only
  refine wpAny_bind (wpAny_mkInt ?_)
  refine wpAny_bind (wpAny_attempt ?_)
  have fin : seqIndex? (i : Int) x.length = some i := seqIndex_of (by omega) (by omega)
  refine getItem_str (s := { s with toks := s.toks + 1 }) (c := c) (by
    have e1 : decide ((i : Int) < -(2 ^ 63 : Int)) = false := decide_eq_false (by omega)
    have e2 : decide ((i : Int) ≥ 2 ^ 63) = false := decide_eq_false (by omega)
    rw [e1, e2, Bool.or_false]) (by rw [fin]; exact hx) ?_
  try dsimp only
  refine wpAny_bind (wpAny_field (s := { s with toks := s.toks + 1 + 1 }) ho hd (x := rawInt (i : Int)) rfl ?_)
  try dsimp only
  refine wpAny_bind (wpAny_setField (s := { s with toks := s.toks + 1 + 1 }) ho hd (by simp) ?_)
  first
  | refine wpAny_pure ⟨_, rfl, wpAny_pure (hQ _ ?_ (Heap.SameBut.update ..))⟩
  | refine wpAny_bind (wpAny_pure (wpAny_pure ⟨_, rfl, wpAny_pure (hQ _ ?_ (Heap.SameBut.update ..))⟩))
  exact ⟨_, Heap.get?_update_self _ ho (Obj.isFreed_of_fields (Obj.data_mapFields hd _)), (Obj.cls_mapFields ..).trans hc, by
    rw [Obj.data_mapFields hd]; simp⟩
theorem next_rs_end {it : Addr} {v : Value} {Q : Option Value → Shared → Prop} (hh : A.handled = none) (hit : IsRs s.heap it v (-1))
    (hQ : ∀ h', Heap.ExtBut it s.heap h' → Q none { s with heap := h' }) : wpAny (model prog w) A (pyNext (.ref it)) Q E s := by
  obtain ⟨o, ho, hc, hd⟩ := id hit
  unfold pyNext
  refine wpAny_bind (wpAny_attempt (wpAny_callSpecial?_slot (name := Str.ofString "__next__") hit.typeIs RT.slot_rt_next
    (wpAny_call_entry RT.slot_rt_next hit.typeIs RT.entry_rt_next ?_ (RT.args_rt_next _))))
  unfold Builtin.«reversed.__next__»
  refine wpAny_bind (wpAny_of_eq (a := (Value.ref it, [])) rfl ?_)
  try dsimp only
  refine wpAny_bind (wpAny_field ho hd (x := v) rfl ?_)
  try dsimp only
  refine wpAny_bind (wpAny_field ho hd (x := rawInt (-1)) rfl ?_)
  show wpAny _ _ (if (-1 : Int) < 0 then _ else _) _ _ s
  rw [if_pos (by decide)]
  try dsimp only
  refine wpAny_bind (wpAny_rule ?_)
  refine wpAny_bind ?_
  wp_delta
  refine wpAny_bind (wpAny_setField ho hd (by simp) ?_)
  have ho2 := Heap.get?_update_self (Obj.mapFields (·.setIfInBounds 1 (rawInt (-1)))) ho (Obj.isFreed_of_fields (Obj.data_mapFields hd _))
  refine wpAny_setField (s := { s with heap := s.heap.update it (Obj.mapFields (·.setIfInBounds 1 (rawInt (-1)))) }) ho2 (Obj.data_mapFields hd _) (by simp) ?_
  try dsimp only
  first
  | show wpAny _ _ (newExc (.type "StopIteration") [] >>= _) _ _ _
  | (refine wpAny_bind ?_; show wpAny _ _ (newExc (.type "StopIteration") [] >>= _) _ _ _)
  | (refine wpAny_bind ?_; wp_delta; show wpAny _ _ (newExc (.type "StopIteration") [] >>= _) _ _ _)
  refine wpAny_bind ?_
  simp only [newExc, newTuple]
  refine wpAny_bind (wpAny_newObj_type ?_ (by size_fits))
  refine wpAny_bind (m := firstArgMember _ _) (wpAny_of_eq (a := Value.none) (by first | rfl | (simp only [firstArgMember]; rfl)) ?_)
  refine wpAny_newObj_type ?_ (by size_fits)
  simp only [raiseNew]
  refine wpAny_bind (wpAny_handled ?_)
  first | rw [show A.in1.handled = none from hh] | rw [hh]
  refine wpAny_bind (wpAny_pure (wpAny_throw ?_))
  refine wpAny_bind (wpAny_isInstance (T := "StopIteration") (b := true) ⟨_, Heap.get?_push_size _ rfl, rfl⟩ isSubtype_stop ?_)
  refine wpAny_pure (hQ _ ?_)
  refine ((?_ : Heap.ExtBut it s.heap _).push _).push _
  exact fun b ob hb e => (Heap.get?_update_other _ _ (Ne.symm hb)).trans ((Heap.get?_update_other _ _ (Ne.symm hb)).trans e)
theorem iter_rs {it : Addr} {v : Value} {i : Int} {Q : Value → Shared → Prop} (hit : IsRs s.heap it v i) (h : Q (.ref it) s) : wpAny (model prog w) A (pyIter (.ref it)) Q E s := by
  refine wpAny_pyIter_slot hit.typeIs RT.slot_rt_iter (wpAny_call_entry RT.slot_rt_iter hit.typeIs RT.entry_rt_iter ?_ (RT.args_rt_iter _))
  show wpAny _ _ (ret (.ref it)) _ _ s
  exact wpAny_pure ⟨_, rfl, "reversed", _, hit.typeIs, RT.slot_rt_next.lookup, h⟩
end
/-- a text from its end -/
def Itrs (x : Str) : It := ⟨fun i _ => i < x.cps.size, fun i H v H' => H' = H ∧ ∃ c, x.cps[x.cps.size - 1 - i]? = some c ∧ v = .str ⟨#[c]⟩, fun i _ => x.cps.size ≤ i⟩
theorem turn_rs {P : Program} {w : World} {K : PySem.W.Frag} {tg : Expr} (it : Addr) (x : Str) (t : Tok) (hz : x.length ≤ sizeLine) :
    Turn P w K tg (Itrs x) [it] it (fun i h => i ≤ x.cps.size ∧ IsRs h it (.str x t) ((x.cps.size : Int) - 1 - (i : Nat))) where
  mem := by simp
  obj := fun i h st b hb => by
    have e : b = it := by simpa using hb
    subst e
    obtain ⟨_, o, e, c, d⟩ := st
    exact ⟨o, e, fun v z => by rw [d] at z; cases z⟩
  keep := fun i h h' st k => ⟨st.1, st.2.at fun o e => k it (by simp) o e⟩
  item := by
    intro X hP hw hK hc i pins s σ H E I hf st hg
    subst hP hw hK
    have hin : i < x.cps.size := hg
    obtain ⟨f0, f1, f2, f3, f4, f5⟩ := hf it (by simp)
    obtain ⟨_, hit⟩ := st
    have e1 : (x.cps.size : Int) - 1 - ((i : Nat) : Int) = ((x.cps.size - 1 - i : Nat) : Int) := by omega
    rw [e1] at hit
    have hlt : x.cps.size - 1 - i < x.cps.size := by omega
    have hx : x.cps[x.cps.size - 1 - i]? = some x.cps[x.cps.size - 1 - i] := Array.getElem?_eq_getElem hlt
    refine next_rs_item hit hx hz fun h' st' sb => ?_
    have e2 : ((x.cps.size - 1 - i : Nat) : Int) - 1 = (x.cps.size : Int) - 1 - ((i + 1 : Nat) : Int) := by omega
    rw [e2] at st'
    have I1 : Inv X pins σ H { s with heap := h', toks := s.toks + 1 + 1 } := I.turned (t' := s.toks + 1 + 1) (fun b o hb e => (sb.2 b hb).trans e) f0 f1 f3 f4 f5
    obtain ⟨o, e, c, d⟩ := id st'
    exact ⟨_, rfl, go_of (s := { s with heap := h', toks := s.toks + 1 + 1 }) e c d (by decide) ⟨.str ⟨#[x.cps[x.cps.size - 1 - i]]⟩, H, I1, ⟨_, rfl⟩, ⟨rfl, _, hx, rfl⟩, ⟨hin, st'⟩, fun b hb => (hf b hb).1⟩⟩
  done := by
    intro X hP hw hK hc i pins s σ H E I hf st hg
    subst hP hw hK
    obtain ⟨f0, f1, f2, f3, f4, f5⟩ := hf it (by simp)
    obtain ⟨hin, hit⟩ := st
    have hge : x.cps.size ≤ i := hg
    have e1 : (x.cps.size : Int) - 1 - ((i : Nat) : Int) = -1 := by omega
    rw [e1] at hit
    exact next_rs_end (I.ok.hd hc) hit fun h' eb => ⟨rfl, I.turned (t' := s.toks) (fun b o hb e => eb b o hb e) f0 f1 f3 f4 f5⟩
  self := fun A i s Q E st h => iter_rs st.2 h
def iRevS (ta : TA) : TI := fun σ H R => ta σ H fun vs H1 => ∃ x, vs = [.str x] ∧ x.length ≤ sizeLine ∧ R (Itrs x) H1
theorem pi_revS {X : Cx} {tg e : Expr} {ta : TA} {p pos : Pos} (hg : Gl X "reversed") (hm : X.mg "reversed" = none) (ha : PA X [e] ta) (hs : starEach [e] X.env = [(false, eval e X.env)] := by rfl) : PI X tg (.Call (.Name "reversed" p) [e] [] pos) (iRevS ta) := by
  refine ⟨fun pins s σ H R I h => ?_⟩
  refine Call_ (ld_blt I hg hm PyProof.Rows.boot_reversed (PyProof.Rows.callWith_type1 (thn (ha.run pos pins s σ H _ I h) fun us s1 ⟨vs, H1, I1, r1, q1⟩ => ?_) hs rfl))
  obtain ⟨x, ex, hz, q⟩ := q1
  subst ex
  cases r1 with
  | cons r rr =>
    cases rr
    obtain ⟨t, rfl⟩ := r
    have hn := line63
    refine call_reversed_str (fun A E Q k => P.len_str (by omega) k) (iter_rs (v := .str x t) (i := (x.length : Int) - 1) ⟨_, Heap.get?_push_size _ rfl, rfl, rfl⟩ ?_)
    refine pi_one (tk := s1.toks + 1 + 1) I1 _ (turn_rs _ x t hz) ⟨Nat.zero_le _, ?_⟩ q
    have e1 : (x.cps.size : Int) - 1 - ((0 : Nat) : Int) = (x.length : Int) - 1 := by show ((x.length : Nat) : Int) - 1 - 0 = _; omega
    rw [e1]
    exact ⟨_, Heap.get?_push_size _ rfl, rfl, rfl⟩
theorem itok_revS {K : PySem.W.Frag} {G : Hp} {s : List Nat} : ItOk K (Itrs (ofL s)) G (s.map fun c => D.str [c]).reverse := by
  unfold ItOk
  have hl : (s.map fun c => D.str [c]).reverse.length = (ofL s).cps.size := by
    rw [List.length_reverse, List.length_map]
    exact (ofL_len s).symm
  rw [hl]
  refine ⟨fun _ _ hi _ => hi, fun _ _ => Nat.le_refl _, fun i H x H' hi g y => ?_⟩
  obtain ⟨e, c, hc, rfl⟩ := y
  subst e
  have hs : (ofL s).cps.size = s.length := ofL_len s
  have : s[s.length - 1 - i]? = some c := by
    have := hc
    rw [hs, ← Array.getElem?_toList, ofL_cps] at this
    exact this
  exact ⟨.str [c], by rw [List.getElem?_reverse (by rw [List.length_map]; omega), List.length_map, List.getElem?_map, this]; rfl, fun Gi s1 s2 => ⟨Gi, Grow.refl s2, .str [c]⟩⟩
section
variable {X : Cx} {c : Lv} {a : Expr} {f : Ev} {pos p : Pos} {tg : Expr}
theorem ri_rev2 (hg : Gl X "reversed") (hm : X.mg "reversed" = none) (ha : PE X a (tE X.K c f)) (hs : starEach [a] X.env = [(false, eval a X.env)] := by rfl) : PI X tg (.Call (.Name "reversed" p) [a] [] pos) (tI X.K c (iRev2 f)) := ⟨fun pins s σ H R I q => by
  obtain ⟨π, ρ, G, S, k⟩ := q
  by_cases z : ∃ t ρ1, f ρ = .ok (.str t) ρ1
  · obtain ⟨t, ρ1, z⟩ := z
    have k' := Po.bind k
    refine (pi_revS hg hm (pa_cons ha pa_nil hs) hs).run pins s σ H R I ⟨π, ρ, G, S, ?_⟩
    rw [z] at k' ⊢
    intro G1 H1 s1 e1 S1 w rw'
    cases rw'
    have k2 := k' G1 H1 s1 e1 S1
    dsimp only [itR] at k2
    by_cases hl : t.length ≤ line
    · rw [if_pos hl] at k2
      exact ⟨_, rfl, by rw [ofL_len]; rw [← line_eq]; exact hl, k2.now S1 _ itok_revS⟩
    · rw [if_neg hl] at k2
      exact False.elim k2
  · refine (ri_rev hg hm ha hs).run pins s σ H R I ⟨π, ρ, G, S, ?_⟩
    have e : iRev2 f ρ = iRev f ρ := by
      unfold iRev2 iRev
      cases h : f ρ with
      | ok d ρ1 =>
        cases d <;> first | rfl | exact absurd ⟨_, _, h⟩ z
      | rz x ρ1 => rfl
      | st => rfl
    rw [← e]
    exact k⟩
end
end NV

set_option Elab.async false
set_option linter.all false
set_option maxRecDepth 100000
set_option maxHeartbeats 4000000
/-! Lay31: a tuple told whose list is changed behind the tests, and then forgotten. -/
namespace NV
open PySem PySem.Spec PyProof.Rows L2
theorem mono_int {n : Int} : Mono (tC (.int n)) := fun _ _ _ _ m q => m _ _ q
theorem mono_neg {ts : TE} (h : Mono ts) : Mono (tUn (rU fun i => .int (-i)) ts) := fun σ H Q Q' m q => h σ H _ _ (fun v H1 ⟨i, e, q1⟩ => ⟨i, e, m _ _ q1⟩) q
theorem mono_ixT {K : PySem.W.Frag} {tb ts : TE} (hb : Mono tb) (hs : Mono ts) : Mono (tOp (rIxT K) tb ts) := fun σ H Q Q' m q =>
  hb σ H _ _ (fun x H1 q1 => hs σ H1 _ _ (fun y H2 ⟨p, xs, i, v, a1, a2, a3, a4, a5⟩ => ⟨p, xs, i, v, a1, a2, a3, a4, m _ _ a5⟩) q1) q
/-- what says a whole number, and nothing else -/
structure SayN (ts : TE) (n : Int) : Prop where
  ok : ∀ σ H Q, Q (.int n) H → ts σ H Q
theorem say_int {n : Int} : SayN (tC (.int n)) n := ⟨fun _ _ _ q => q⟩
theorem say_neg {ts : TE} {n : Int} (h : SayN ts n) : SayN (tUn (rU fun i => .int (-i)) ts) (-n) := ⟨fun σ H Q q => h.ok σ H _ ⟨n, rfl, q⟩⟩
section
variable {X : Cx} {c : Lv} {e g : Expr} {f gv : Ev} {pos p apos cpos : Pos} {x : Str} {sts : List Stmt} {B : Es} {ts : TE} {n : Int}
theorem mutT_core {K : PySem.W.Frag} {π : Nat → Addr} {ρ ρ0 : Env} {d : D} {G0 Gx : Hp} {σ σ0 : St} {H H0 : Hp} {i : Nat} (T : Tree K π ρ i d G0 Gx σ H ρ0 σ0 H0) {D : Ends} (sn : SayN ts n) (h : PoS K c π ρ0 G0 σ0 H0 (sMutT i n f B ρ) D) :
    tMut K c (tOp (rIxT K) (tVar i) ts) f { D with nx := tS K c B D } σ H := by
  obtain ⟨w, ew, r⟩ := T.rep
  have no := noOwn_set (i := i) (s := .un) T.no rfl
  unfold sMutT at h
  rw [T.at'] at h
  dsimp only at h
  by_cases ht : tupAt d n = true
  · rw [if_pos ht] at h
    cases z : f (ρ.set i .un) with
    | ok d1 ρ1 =>
      rw [z] at h
      dsimp only at h
      unfold tupAt at ht
      cases d <;> first | cases ht | skip
      rename_i ds
      dsimp only at ht
      cases ea : NV.at? ds n with
      | none => rw [ea] at ht; cases ht
      | some el =>
        rw [ea] at ht
        cases el <;> first | cases ht | skip
        rename_i es
        have hl : es.length + 1 < line := of_decide_eq_true ht
        cases r with
        | tup hsq rs =>
          rename_i P xs
          obtain ⟨j, hj, hat⟩ := at_len rs.length ea
          obtain ⟨q, hq1, hq2⟩ := rs.get hj
          have hat := hat q hq1
          cases hq2 with
          | lst hQ rL =>
            rename_i Q L
            have lL := rL.length
            have nQ := T.sep _ _ hQ
            have HQ := T.sx _ _ hQ
            refine ⟨_, ew, sn.ok _ _ _ ⟨_, _, _, _, rfl, rfl, Same.tupS T.sx hsq, hat, _, _, rfl, HQ, tE_free T.S no z fun w1 H1 s1 => ⟨_, s1 _ _ HQ, by omega, ?_⟩⟩⟩
            have kC : Same H0 (upd H1 Q (.lst (L ++ [w1]))) := fun b o e => by
              rw [upd_ne (fun z => by subst z; rw [nQ] at e; cases e)]
              exact s1 _ _ (T.keep _ _ e)
            exact ⟨π, _, G0, T.S.free no (T.sub0.trans kC), PoS.step (Same.refl _) (T.ext kC) h⟩
    | rz _ _ => rw [z] at h; exact False.elim h
    | st => rw [z] at h; exact False.elim h
  · rw [if_neg ht] at h; exact False.elim h
theorem rss_mutT (i : Nat) {px ps : Pos} {es : Expr} (hN : X.N[i]? = some x) (hv : Vis X.env.scope x) (hs : PE X es ts) (mt : Mono ts) (sn : SayN ts n) (hb : PSs X sts (tS X.K c B))
    (m1 : ∀ {tb : TE} (hm : Mono tb) (hbs : PE X (.Subscript (.Name x px) es ps) tb), PS X (.Expr (.Call (.Attribute (.Subscript (.Name x px) es ps) "append" apos) [e] [] cpos) p) (tMut X.K c tb f))
    (hp : PlainIx es) (hd : (x == ("__debug__" : Str)) = false := by decide) (hcd : (x == ("__classdict__" : Str)) = false := by decide) :
    PSs X (.Expr (.Call (.Attribute (.Subscript (.Name x px) es ps) "append" apos) [e] [] cpos) p :: sts) (tF X.K c i (sMutT i n f B)) :=
  PSs_imp (pss_cons (m1 (mono_ixT mono_var mt) (pe_ix ix_tup (pe_var hN hv hd hcd) hs hp)) hb) fun D σ H q => by
    obtain ⟨π, ρ, d, G0, Gx, ρ0, σ0, H0, T, k⟩ := q
    exact mutT_core T sn k
theorem rss_mutIf (i : Nat) {px ps : Pos} {es : Expr} (hN : X.N[i]? = some x) (hv : Vis X.env.scope x) (hg : PT X g (tT X.K c gv)) (hs : PE X es ts) (mt : Mono ts) (sn : SayN ts n) (hb : PSs X sts (tS X.K c B))
    (m1 : ∀ {tb : TE} (hm : Mono tb) (hbs : PE X (.Subscript (.Name x px) es ps) tb), PS X (.Expr (.Call (.Attribute (.Subscript (.Name x px) es ps) "append" apos) [e] [] cpos) p) (tMut X.K c tb f))
    (hp : PlainIx es) (hd : (x == ("__debug__" : Str)) = false := by decide) (hcd : (x == ("__classdict__" : Str)) = false := by decide) :
    PSs X (.If g [.Expr (.Call (.Attribute (.Subscript (.Name x px) es ps) "append" apos) [e] [] cpos) p] [] pos :: sts) (tF X.K c i (sMutIf i gv n f B)) :=
  PSs_imp (pss_cons (ps_if hg (pss_one (m1 (mono_ixT mono_var mt) (pe_ix ix_tup (pe_var hN hv hd hcd) hs hp))) pss_nil) hb) fun D σ H q => by
    obtain ⟨π, ρ, d, G0, Gx, ρ0, σ0, H0, T, k⟩ := q
    refine ⟨π, ρ, _, T.both, ?_⟩
    unfold sMutIf at k
    cases z : gv ρ with
    | ok b ρ1 =>
      rw [z] at k
      intro G' H' s' e' S'
      have kp : Same H H' := fun b o h => (e' b o h (noOwn T.no)).1
      have T' := T.turn kp
      cases b with
      | bl v =>
        refine ⟨v, rfl, ?_⟩
        cases v with
        | true => exact iteT (mutT_core T' sn k)
        | false => exact iteF ⟨π, _, G0, T'.S, PoS.step (Same.refl _) (T'.ext T'.keep) k⟩
      | _ => exact False.elim k
    | rz _ _ => rw [z] at k; exact False.elim k
    | st => rw [z] at k; exact False.elim k
end
end NV

set_option Elab.async false
set_option linter.all false
set_option maxRecDepth 100000
set_option maxHeartbeats 4000000
/-! Lay32: "".join(reversed(text)). -/
namespace NV
open PySem PySem.Spec PyProof.Rows L2
theorem nolen_rs : typeLookup (.type "reversed") "__len__" = pure none := by rw [typeLookup_type, builtinLookup_eq_fast]; kernel_rfl
theorem hint_rs : typeLookup (.type "reversed") "__length_hint__" = pure (some (.builtin "reversed.__length_hint__")) := by rw [typeLookup_type, builtinLookup_eq_fast]; kernel_rfl
theorem slot_rs_hint : Slot "reversed" "__length_hint__" "reversed.__length_hint__" :=
  .of (owner := "reversed") (n := "__length_hint__") (by rw [typeLookup_type, builtinLookup_eq_fast]; kernel_rfl) (by decide +kernel) (by decide +kernel) (by decide +kernel)
    (by first | exact .inl (by decide +kernel) | exact .inr (by decide +kernel)) (by rw [isSubtype_type]; kernel_rfl)
theorem entry_rs_hint : entryFor table "reversed.__length_hint__" = some Builtin.«reversed.__length_hint__» := entryFor_of_tree (by kernel_rfl)
theorem args_rs_hint (a : Value) : argsOk "reversed.__length_hint__" ⟨[a], []⟩ := by unfold argsOk; kernel_rfl
theorem wp_neg {α : Type} {M : Model} {A : Around} {c : Prop} [Decidable c] {a b : Sem α} {Q : α → Shared → Prop} {E : Value → Shared → Prop} {s : Shared} (h : ¬ c) (k : wpAny M A b Q E s) : wpAny M A (if c then a else b) Q E s := by rw [if_neg h]; exact k
theorem wp_pos {α : Type} {M : Model} {A : Around} {c : Prop} [Decidable c] {a b : Sem α} {Q : α → Shared → Prop} {E : Value → Shared → Prop} {s : Shared} (h : c) (k : wpAny M A a Q E s) : wpAny M A (if c then a else b) Q E s := by rw [if_pos h]; exact k
section
variable {prog : Program} {w : World} {A : Around} {E : Value → Shared → Prop} {s : Shared} {x : Str} {t : Tok}
theorem call_rs_hint {it : Addr} {Q : Value → Shared → Prop} (hit : IsRs s.heap it (.str x t) ((x.length : Int) - 1)) (hz : x.length ≤ sizeLine)
    (h : ∀ tk k, s.toks ≤ k → Q (.int x.length tk) { s with toks := k }) : wpAny (model prog w) A (call (.builtin "reversed.__length_hint__") [.ref it]) Q E s := by
  obtain ⟨o, ho, hc, hd⟩ := id hit
  have hn := line63
  refine wpAny_call_entry slot_rs_hint hit.typeIs entry_rs_hint ?_ (args_rs_hint _)
  unfold Builtin.«reversed.__length_hint__»
  refine wpAny_bind (wpAny_of_eq (a := Value.ref it) rfl ?_)
  try dsimp only
  refine wpAny_bind (wpAny_field ho hd (x := .str x t) rfl ?_)
  rw [if_neg (show ¬ ((Value.str x t == Value.none) = true) from Bool.false_ne_true)]
  try dsimp only
  refine wpAny_bind (P.len_str (by omega) ?_)
  refine wpAny_bind (wpAny_of_eq (a := some ((x.length : Nat) : Int)) rfl ?_)
  try dsimp only
  refine wpAny_bind (wpAny_field (s := { s with toks := s.toks + 1 + 1 }) ho hd (x := rawInt ((x.length : Int) - 1)) rfl ?_)
  show wpAny _ _ (if (x.length : Int) < ((x.length : Int) - 1) + 1 then _ else retInt (((x.length : Int) - 1) + 1)) _ _ _
  rw [if_neg (by omega), show ((x.length : Int) - 1) + 1 = (x.length : Int) by omega]
  refine wpAny_bind (wpAny_mkInt ?_)
  exact wpAny_pure ⟨_, rfl, h _ _ (by show s.toks ≤ s.toks + 1 + 1 + 1; omega)⟩
/-- the walk over it -/
theorem walks_rs {it : Addr} (hh : A.handled = none) (hz : x.length ≤ sizeLine) :
    WalksS prog w A it [it] [it] (fun a b => b = a) x.cps.size (fun i v => ∃ c u, x.cps[x.cps.size - 1 - i]? = some c ∧ v = Value.str ⟨#[c]⟩ u) (fun i s => i ≤ x.cps.size ∧ IsRs s.heap it (.str x t) ((x.cps.size : Int) - 1 - (i : Nat))) where
  sub := fun b hb => hb
  grefl := fun _ => rfl
  gtrans := fun _ _ _ h1 h2 => h2.trans h1
  frame := fun i s h' tk st _ hk => ⟨st.1, st.2.at fun o e => hk it (by simp) o e⟩
  item := fun i s Q E hi st hQ => by
    obtain ⟨_, hit⟩ := st
    have e1 : (x.cps.size : Int) - 1 - ((i : Nat) : Int) = ((x.cps.size - 1 - i : Nat) : Int) := by omega
    rw [e1] at hit
    have hlt : x.cps.size - 1 - i < x.cps.size := by omega
    have hx : x.cps[x.cps.size - 1 - i]? = some x.cps[x.cps.size - 1 - i] := Array.getElem?_eq_getElem hlt
    refine next_rs_item hit hx hz fun h' st' sb => ?_
    have e2 : ((x.cps.size - 1 - i : Nat) : Int) - 1 = (x.cps.size : Int) - 1 - ((i + 1 : Nat) : Int) := by omega
    rw [e2] at st'
    exact hQ _ { s with heap := h', toks := s.toks + 1 + 1 } ⟨_, _, hx, rfl⟩ ⟨hi, st'⟩ ⟨fun b ob hb e => (sb.2 b (fun z => hb (by simp [z]))).trans e, rfl, rfl, rfl, by show s.toks ≤ s.toks + 1 + 1; omega⟩
  done := fun s Q E st hQ => by
    obtain ⟨_, hit⟩ := st
    have e1 : (x.cps.size : Int) - 1 - ((x.cps.size : Nat) : Int) = -1 := by omega
    rw [e1] at hit
    exact next_rs_end hh hit fun h' hx => hQ { s with heap := h' } ⟨fun b ob hb e => hx b ob (fun h => hb (by simp [h])) e, rfl, rfl, rfl, Nat.le_refl _⟩
  self := fun i s Q E st hQ => iter_rs st.2 hQ
theorem listHint_rs {it : Addr} {Q : Bool → Shared → Prop} (hz : x.length ≤ sizeLine) (hit : IsRs s.heap it (.str x t) ((x.length : Int) - 1))
    (h : ∀ k, s.toks ≤ k → Q ((x.length : Int) != 0) { s with toks := k }) : wpAny (model prog w) A (Builtin.List.listLengthHint (.ref it)) Q E s := by
  have hT : s.TypeIs (.ref it) "reversed" := hit.typeIs
  have hn := line63
  unfold Builtin.List.listLengthHint
  refine wpAny_bind (wpAny_specialOf hT nolen_rs ?_)
  show wpAny _ A (specialOf (Value.ref it) (Str.ofString "__length_hint__") >>= _) _ _ _
  refine wpAny_bind (wpAny_specialOf hT hint_rs ?_)
  generalize hid : ("reversed.__length_hint__" : String) = id0
  wp_delta
  rw [show splitId id0 = some ("reversed", "__length_hint__") from by subst hid; decide +kernel]
  subst hid
  refine wpAny_bind (wpAny_isInstance (b := true) hT (by rw [isSubtype_type]; kernel_rfl) ?_)
  rw [if_neg (by decide)]
  try dsimp only
  refine wp_neg ?hsil ?_
  case hsil => first | decide +kernel | exact ne_of_eq_of_ne (b := false) (by kernel_rfl) Bool.false_ne_true
  refine wpAny_bind (wpAny_rule ?_)
  refine wpAny_bind (wpAny_of_eq (slot_rs_hint.bind _) ?_)
  try dsimp only
  refine wpAny_bind (wpAny_attempt (call_rs_hint hit hz fun tk k hk => ?_))
  try dsimp only
  have f1 : Builtin.List.listFitsIndex (x.length : Int) = true := by
    unfold Builtin.List.listFitsIndex
    rw [Bool.and_eq_true, decide_eq_true_eq, decide_eq_true_eq]
    omega
  rw [show asInt? (Value.int (x.length : Int) tk) = pure (some (x.length : Int)) from rfl, pure_bind]
  dsimp only
  rw [f1, if_neg (show ¬ ((!true) = true) by decide)]
  have f2 : ¬ ((x.length : Int) < 0) := by omega
  have f3 : Builtin.List.listTooLong ((x.length : Int)).toNat = false := by unfold Builtin.List.listTooLong; rw [decide_eq_false_iff_not]; omega
  rw [if_neg f2, f3, if_neg Bool.false_ne_true]
  exact wpAny_pure (h k hk)
theorem collect_rs {it : Addr} {Q : List Value → Shared → Prop} (hh : A.handled = none) (hz : x.length ≤ sizeLine) (hx0 : x.cps.size ≠ 0) (hit : IsRs s.heap it (.str x t) ((x.length : Int) - 1))
    (hQ : ∀ s' acc, Moved [it] (fun a b => b = a) s s' → ItemsOf (fun i v => ∃ c u, x.cps[x.cps.size - 1 - i]? = some c ∧ v = Value.str ⟨#[c]⟩ u) acc x.cps.size → Q acc.toList s') : wpAny (model prog w) A (collect (.ref it)) Q E s := by
  have W := walks_rs (prog := prog) (w := w) (A := A.in1) (x := x) (t := t) (it := it) hh hz
  obtain ⟨oi, hoi, _⟩ := id hit
  have hlt : it < s.heap.objs.size := Heap.lt_size hoi
  have hSI : s.heap.objs.size ≠ it := Nat.ne_of_gt hlt
  have hSf : s.heap.objs.size ∉ [it] := fun m => hSI (List.mem_singleton.mp m)
  have hlen : x.length = x.cps.size := rfl
  have hst : (0 : Nat) ≤ x.cps.size ∧ IsRs s.heap it (.str x t) ((x.cps.size : Int) - 1 - ((0 : Nat) : Int)) := ⟨Nat.zero_le _, by
    rw [show (x.cps.size : Int) - 1 - ((0 : Nat) : Int) = (x.length : Int) - 1 by omega]; exact hit⟩
  unfold collect
  refine wpAny_bind (wpAny_runValue (codeAny_builtin F.entry_proto_collect ?_))
  rw [Around.under_plainId F.plain_proto_collect _]
  show wpAny _ A.in1 (newList [] >>= fun l => again (.builtin "list.__iadd__" ⟨[l, .ref it], []⟩)) _ _ s
  refine wpAny_bind (wpAny_newObj_type ?_)
  refine wpAny_pure ⟨plainId_quiet F.plain_list_iadd _, codeAny_builtin F.entry_list_iadd ?_⟩
  rw [Around.under_plainId F.plain_list_iadd _]
  have hst₁ := W.frame 0 s (s.heap.push { cls := .type "list", data := .seq ([] : List Value).toArray }) s.toks hst (Nat.le_refl _) fun b _ o e => Heap.get?_push_of_some _ e
  have hT : ({ s with heap := s.heap.push { cls := .type "list", data := .seq ([] : List Value).toArray } } : Shared).TypeIs (.ref it) "reversed" := hst₁.2.typeIs
  show wpAny _ A.in1 (Builtin.List.listExtendWith (.ref s.heap.objs.size) (.ref it) (.ref s.heap.objs.size)) _ _ _
  unfold Builtin.List.listExtendWith
  refine wpAny_bind (wpAny_typeOf hT ?_)
  have h1 : Builtin.List.listSameRef (.ref s.heap.objs.size) (.ref it) = false := by simp [Builtin.List.listSameRef, hSI]
  rw [if_neg (by rw [h1]; decide)]
  refine wpAny_bind (W.self 0 _ _ _ hst₁ ?_)
  refine wpAny_bind (wpAny_holding ?_)
  have hit1 : IsRs (s.heap.push { cls := .type "list", data := .seq ([] : List Value).toArray }) it (.str x t) ((x.length : Int) - 1) := hit.at fun o e => Heap.get?_push_of_some _ e
  refine listHint_rs (s := { s with heap := s.heap.push { cls := .type "list", data := .seq ([] : List Value).toArray } }) hz hit1 fun k hk => ?_
  have nz : ((x.length : Int) != 0) = true := by
    rw [bne_iff_ne]; omega
  refine wp_pos (by rw [nz]; rfl) ?_
  refine wpAny_bind (wpAny_rule ?_)
  have hS₁ : (s.heap.push { cls := .type "list", data := .seq ([] : List Value).toArray }).get? s.heap.objs.size = some { cls := .type "list", data := .seq ([] : List Value).toArray } := Heap.get?_push_size _ rfl
  refine wpAny_bind ?_
  show wpAny _ A.in1 (updateSeq s.heap.objs.size (·.push .none) >>= fun _ => updateSeq s.heap.objs.size (·.pop)) _ _ _
  refine wpAny_bind (wpAny_updateSeq hS₁ rfl ?_)
  have hS₂ := Heap.get?_update_self (Obj.mapSeq (·.push Value.none)) hS₁ rfl
  refine wpAny_updateSeq hS₂ rfl ?_
  have hS₃ := Heap.get?_update_self (Obj.mapSeq (·.pop)) hS₂ rfl
  have oth : ∀ b o, b ≠ s.heap.objs.size → (s.heap.push { cls := .type "list", data := .seq ([] : List Value).toArray }).get? b = some o →
      (((s.heap.push { cls := .type "list", data := .seq ([] : List Value).toArray }).update s.heap.objs.size (Obj.mapSeq (·.push Value.none))).update s.heap.objs.size (Obj.mapSeq (·.pop))).get? b = some o :=
    fun b o hb e => (Heap.get?_update_other _ _ (Ne.symm hb)).trans ((Heap.get?_update_other _ _ (Ne.symm hb)).trans e)
  refine wpAny_pure ⟨plainId_quiet F.plain_extend_loop _, codeAny_extend_loopS W (by rw [← hlen]; exact hz) _ hSf _ x.cps.size 0 _ _ _ rfl (Nat.zero_le _)
    (W.frame 0 ({ s with heap := s.heap.push { cls := .type "list", data := .seq ([] : List Value).toArray } } : Shared) _ k hst₁ hk fun b hb o e => oth b o (fun h => hSf (h ▸ hb)) e) hS₃ (ItemsOf.nil _) fun s' acc' c' hm hS' hacc => ?_⟩
  show wpAny _ A (load s.heap.objs.size >>= _) _ _ s'
  refine wpAny_bind (wpAny_load hS' ?_)
  refine wpAny_pure (hQ s' acc' ⟨fun b o hb e => ?_, hm.gens, hm.drawn, hm.os, Nat.le_trans hk hm.toks⟩ hacc)
  have hbs : b ≠ s.heap.objs.size := Nat.ne_of_lt (Heap.lt_size e)
  refine hm.heap b o (fun hmem => ?_) (oth b o hbs (Heap.get?_push_of_some _ e))
  rcases List.mem_cons.mp hmem with e' | hmem
  · exact hbs e'
  · exact hb hmem
theorem strs_rev : ∀ (n : Nat) (xs : List Nat) (acc : List Value), xs.length = n → acc.length = n → (∀ i v, acc[i]? = some v → ∃ c u, xs[n - 1 - i]? = some c ∧ v = Value.str ⟨#[c]⟩ u) → StrsAre acc (xs.reverse.map fun c => (⟨#[c]⟩ : Str))
  | 0, xs, acc, h1, h2, _ => by
    obtain rfl := List.length_eq_zero_iff.mp h1
    obtain rfl := List.length_eq_zero_iff.mp h2
    exact .nil
  | n + 1, xs, v :: acc, h1, h2, h => by
    obtain ⟨c, u, hc, rfl⟩ := h 0 v rfl
    rw [show n + 1 - 1 - 0 = n by omega] at hc
    have e : xs = xs.take n ++ [c] := by
      have := List.take_append_drop n xs
      rw [List.drop_eq_getElem_cons (by omega), List.drop_of_length_le (by omega)] at this
      have h3 : xs[n]'(by omega) = c := by
        rw [List.getElem?_eq_getElem (by omega)] at hc
        exact Option.some.inj hc
      rw [h3] at this
      exact this.symm
    rw [e, List.reverse_append, List.reverse_singleton, List.singleton_append, List.map_cons]
    refine .cons _ u (strs_rev n (xs.take n) acc (by rw [List.length_take]; omega) (by simpa using h2) fun i v hv => ?_)
    obtain ⟨c2, u2, hc2, rfl⟩ := h (i + 1) v hv
    have hi : i < acc.length := by
      rcases Nat.lt_or_ge i acc.length with z | z
      · exact z
      · rw [List.getElem?_eq_none z] at hv; cases hv
    have hl : acc.length = n := by simpa using h2
    exact ⟨c2, u2, by rw [List.getElem?_take_of_lt (by omega), show n - 1 - i = n + 1 - 1 - (i + 1) by omega]; exact hc2, rfl⟩
theorem join_one (xs : List Nat) : Txt.join ⟨#[]⟩ (xs.map fun c => (⟨#[c]⟩ : Str)) = ⟨xs.toArray⟩ := by
  have h := join_ofL [] (xs.map fun c => [c])
  rw [List.map_map] at h
  have e : ∀ ys : List Nat, NV.joinL [] (ys.map fun c => [c]) = ys := fun ys => by
    induction ys with
    | nil => rfl
    | cons y r ih =>
      cases r with
      | nil => rfl
      | cons z r => 
        show [y] ++ [] ++ NV.joinL [] ((z :: r).map fun c => [c]) = _
        rw [ih]; rfl
  rw [e] at h
  exact h
theorem join_rs {it : Addr} {Q : Value → Shared → Prop} {z : Str} {tz : Tok} (hh : A.handled = none) (hz : x.length ≤ sizeLine) (hx0 : x.cps.size ≠ 0) (hit : IsRs s.heap it (.str x t) ((x.length : Int) - 1)) (hz0 : z = ⟨#[]⟩) (hzs : x.cps.size ≤ 16777216)
    (hq : ∀ h' t' k, (∀ b o, b ≠ it → s.heap.get? b = some o → h'.get? b = some o) → Q (.str ⟨x.cps.toList.reverse.toArray⟩ t') { s with heap := h', toks := k }) :
    wpAny (model prog w) A (call (.builtin "str.join") [.str z tz, .ref it]) Q E s := by
  have hT : s.TypeIs (.ref it) "reversed" := hit.typeIs
  refine wpAny_call (codeAny_call_builtin F.slot_str_join.plain F.entry_str_join (F.slot_str_join.check _ _ _ _ _ _ _ _ (typeIs_str _ _ _) (F.args_str_join_2 _ _) ?_))
  rw [join_tree_other]
  refine wpAny_bind (wpAny_typeOf hT ?_)
  show wpAny _ A.in1 ((pyIter (.ref it)).tryCatch _ >>= fun it => collect it >>= fun items => joinTail z items) _ _ s
  refine wpAny_bind (wpAny_tryCatch (iter_rs hit ?_))
  refine wpAny_bind (collect_rs (A := A.in1) hh hz hx0 hit fun s' acc hm hacc => ?_)
  have sa : StrsAre acc.toList (x.cps.toList.reverse.map fun c => (⟨#[c]⟩ : Str)) := strs_rev x.cps.size x.cps.toList acc.toList (by simp) (by rw [Array.length_toList]; exact hacc.1) fun i v hv => by
    obtain ⟨c, u, h1, h2⟩ := hacc.2 i v (by rw [← Array.getElem?_toList]; exact hv)
    exact ⟨c, u, by rw [Array.getElem?_toList]; exact h1, h2⟩
  obtain ⟨l, hl, ht⟩ := strsAre_values sa
  have hq2 : ∀ t' k, Q (.str ⟨x.cps.toList.reverse.toArray⟩ t') { s' with toks := k } := fun t' k => by
    rw [Moved.eq_with hm]
    exact hq s'.heap t' k fun b o hb e => hm.heap b o (fun hmem => hb (List.mem_singleton.mp hmem)) e
  have jn : Txt.join z (x.cps.toList.reverse.map fun c => (⟨#[c]⟩ : Str)) = ⟨x.cps.toList.reverse.toArray⟩ := by
    subst hz0
    exact join_one x.cps.toList.reverse
  rw [← jn, ← ht] at hq2
  rw [hl]
  have hok : ((l.map (·.1)).map (·.length)).sum + (l.map (·.1)).length * z.length ≤ 16777216 := by
    rw [ht, hz0, List.length_map, List.length_reverse, Array.length_toList, List.map_map]
    have : ∀ ys : List Nat, (ys.map ((fun s : Str => s.length) ∘ fun c => (⟨#[c]⟩ : Str))).sum = ys.length := fun ys => by
      induction ys with
      | nil => rfl
      | cons y r ih => rw [List.map_cons, List.sum_cons, ih, List.length_cons]; show 1 + r.length = _; omega
    rw [this, List.length_reverse, Array.length_toList]
    show x.cps.size + x.cps.size * 0 ≤ _
    omega
  have hok' := joinOk_of hok
  unfold JoinOk at hok'
  rw [Bool.not_eq_true'] at hok'
  have g : Gives (joinTail z (strValues l)) (joinMade z l) := by
    have g0 := gives_joinTail z l hok'
    cases l with
    | nil => exact g0
    | cons p r => cases r with
      | nil => exact g0
      | cons q r' => exact g0
  exact g prog w A (wants Q E) s' (post_join l ⟨joinFit_length hok', hq2⟩)
end
/-- "".join(reversed(x)) -/
def tJoinRev (te : TE) : TE := fun σ H Q => te σ H fun v H1 => ∃ x, v = .str x ∧ x.length ≤ sizeLine ∧ x.cps.size ≠ 0 ∧ Q (.str ⟨x.cps.toList.reverse.toArray⟩) H1
section
variable {X : Cx} {c : Lv} {e a : Expr} {f : Ev} {te : TE} {pos p pos2 apos cp : Pos} {j : Nat} {z : Str} {y : Str}
theorem pe_joinRev (hc : X.calm = true) (hz0 : z = ⟨#[]⟩) (hg : Gl X "reversed") (hm : X.mg "reversed" = none) (he : PE X e te)
    (hs1 : starEach [.Call (.Name "reversed" p) [e] [] pos2] X.env = [(false, eval (.Call (.Name "reversed" p) [e] [] pos2) X.env)] := by rfl)
    (hs : starEach [e] X.env = (false, eval e X.env) :: starEach [] X.env := by rfl)
    (hbase : attributeBase (.Constant (.str z) j cp) "join" X.env (eval (.Constant (.str z) j cp) X.env) = eval (.Constant (.str z) j cp) X.env := by rfl) (hline : (apos.endLine == pos.line) = true := by rfl) :
    PE X (.Call (.Attribute (.Constant (.str z) j cp) "join" apos) [.Call (.Name "reversed" p) [e] [] pos2] [] pos) (tJoinRev te) := by
  refine ⟨fun pins s σ H Q I h => ?_⟩
  have h0 : tC (.str z) σ H fun x H1 => x = .str z ∧ H1 = H := ⟨rfl, rfl⟩
  refine PySem.Call_method1 hbase hs1 hline (thn ((pe_str (X := X) (x := z) (j := j) (pos := cp)).run pins s σ H _ I h0) fun v s1 ⟨x, H1, I1, r1, q1⟩ => ?_)
  obtain ⟨rfl, rfl⟩ := q1
  obtain ⟨tz, rfl⟩ := _root_.id r1
  refine ⟨"str", _, F.plainAttrs_str, F.slot_str_join, F.type_str_join, typeIs_str _ _ _, (fun _ e => nomatch e), Calls.callWith_builtin rfl (Calls.evalArgs_plain (Calls.spliced_cons ?_))⟩
  refine Call_ (ld_blt I1 hg hm PyProof.Rows.boot_reversed (PyProof.Rows.callWith_type1 (args_cons (thn (he.run pins s1 σ H1 _ I1 h) fun u s2 ⟨v, H2, I2, r2, q2⟩ => args_nil ?_) hs) hs rfl))
  obtain ⟨y, ey, hz, hx0, q⟩ := q2
  subst ey
  obtain ⟨t, rfl⟩ := r2
  have hn := line63
  have hsz : y.cps.size ≤ 16777216 := by rw [sizeLine_eq] at hz; exact hz
  refine call_reversed_str (fun A E Q k => P.len_str (by omega) k) ?_
  refine Calls.spliced_nil ?_
  have k0 : ∀ b o, s2.heap.get? b = some o → (s2.heap.push (rsObj (.str y t) ((y.length : Int) - 1))).get? b = some o := fun b o e => Heap.get?_push_of_some _ e
  refine join_rs (s := { s2 with heap := s2.heap.push (rsObj (.str y t) ((y.length : Int) - 1)), toks := s2.toks + 1 + 1 }) (it := s2.heap.objs.size) (I2.ok.hd hc) hz hx0 ⟨_, Heap.get?_push_size _ rfl, rfl, rfl⟩ hz0 hsz fun h' t' k hk => ?_
  have I3 : Inv X pins σ H2 { s2 with heap := h', toks := k } := I2.kept (t' := k) fun b o e => hk b o (Nat.ne_of_lt (Heap.lt_size e)) (k0 b o e)
  exact ⟨.str _, H2, I3, ⟨t', rfl⟩, q⟩
theorem re_joinRev (hc : X.calm = true) (hz0 : z = ⟨#[]⟩) (hg : Gl X "reversed") (hm : X.mg "reversed" = none) (he : PE X e (tE X.K c f))
    (hs1 : starEach [.Call (.Name "reversed" p) [e] [] pos2] X.env = [(false, eval (.Call (.Name "reversed" p) [e] [] pos2) X.env)] := by rfl)
    (hs : starEach [e] X.env = (false, eval e X.env) :: starEach [] X.env := by rfl)
    (hbase : attributeBase (.Constant (.str z) j cp) "join" X.env (eval (.Constant (.str z) j cp) X.env) = eval (.Constant (.str z) j cp) X.env := by rfl) (hline : (apos.endLine == pos.line) = true := by rfl) :
    PE X (.Call (.Attribute (.Constant (.str z) j cp) "join" apos) [.Call (.Name "reversed" p) [e] [] pos2] [] pos) (tE X.K c (e1 opJRev f)) :=
  PE_imp (pe_joinRev hc hz0 hg hm he hs1 hs hbase hline) fun σ H Q q => by
    obtain ⟨π, ρ, G, S, k⟩ := q
    refine ⟨π, ρ, G, S, (Po.bind k).mono fun d1 ρ1 G1 H1 s1 e1' S1 k1 w1 r1 => ?_⟩
    cases d1 <;> first | exact False.elim k1 | skip
    rename_i s
    simp only [opJRev] at k1
    split at k1
    · rename_i hl
      cases r1
      refine ⟨ofL s, rfl, by rw [ofL_len, ← line_eq]; exact hl.2, by have : (ofL s).cps.size = s.length := ofL_len s; omega, ?_⟩
      rw [ofL_cps]
      exact k1.now S1 _ (.str s.reverse)
    · exact False.elim k1
theorem ints_vals2 {K : PySem.W.Frag} {G : Hp} : ∀ {ds : List D} {vs : List V} {ns : List Int}, Reps K G vs ds → intsD ds = some ns → vs = ns.map V.int
  | [], _, _, h, e => by
    cases h
    obtain rfl := Option.some.inj e
    rfl
  | d :: ds, _, ns, h, e => by
    cases h with
    | cons h1 h2 =>
      cases d <;> first | cases e | skip
      rename_i i
      simp only [intsD] at e
      cases z : intsD ds with
      | none => rw [z] at e; cases e
      | some ms =>
        rw [z] at e
        obtain rfl := Option.some.inj e
        cases h1
        rw [ints_vals2 h2 z]; rfl
theorem reps_ints {K : PySem.W.Frag} {G : Hp} : ∀ ns : List Int, Reps K G (ns.map V.int) (ns.map D.int)
  | [] => .nil
  | n :: r => .cons (.int n) (reps_ints r)
theorem sort_uniq {ns ms : List Int} (h : ms.Perm ns) (p : ms.Pairwise (· ≤ ·)) : ms = sortI ns := by
  refine List.Perm.eq_of_pairwise (le := fun a b => a ≤ b) (fun a b _ _ h1 h2 => Int.le_antisymm h1 h2) p ?_ (h.trans (List.mergeSort_perm _ _).symm)
  have := List.pairwise_mergeSort (le := fun a b : Int => decide (a ≤ b)) (fun a b c h1 h2 => by simp at *; omega) (fun a b => by simp; omega) ns
  exact this.imp fun h => by simpa using h
theorem cd_sorted : CallD1 X (.builtin "sorted") opSorted := by
  refine ⟨fun {G H x a d Q} s ra e h => ?_⟩
  cases ra with
  | lst h1 h2 =>
    simp only [opSorted] at e
    rw [Option.map_eq_some_iff] at e
    obtain ⟨ns, e1, e2⟩ := e
    subst e2
    have ev := ints_vals2 h2 e1
    subst ev
    refine rUC_of cr_sortedI ⟨_, ns, rfl, SqL.of (s _ _ h1), fun ms p hp hs hn => ?_⟩
    have := sort_uniq hp hs
    subst this
    exact h.lst s (reps_ints _) p hn
  | _ => simp [opSorted] at e
end
end NV

set_option Elab.async false
set_option linter.all false
set_option maxRecDepth 100000
set_option maxHeartbeats 4000000
/-! Lay33: a def called without arguments. -/
namespace NV
open PySem PySem.Spec PyProof.Rows L2
section
variable {X : Cx} {c : Lv} {e : Expr} {es : List Expr} {fs : Ea} {pos p : Pos} {x : Str} {s : Df} {n k : Nat} {f : Addr} {fd : FuncData} {ps : List Str}
theorem pe_callS0 {sp : Sp} {E : St → XK} (F : FnOk X.prog X.w X.K X.mg X.base (L2.CX X.prog X.w) k f fd ps sp) (hr : Room k X.A) (hg : Gl X x) (hm : X.mg x = some (.ref f)) (hk : PySem.W.keepIn X.K (.ref f) = true) (hb : Binds X.K fd ps []) (hx : ∀ σ, PassesAt (L2.CX X.prog X.w) X σ (E σ))
    (hdb : (x == ("__debug__" : Str)) = false := by decide) : PE X (.Call (.Name x p) [] [] pos) (tCallS sp E tNil) := by
  refine ⟨fun pins s σ H Q I h => ?_⟩
  refine wpAny_Call_Name_kw (ld_glob I hg hm ?_ hdb)
  exact PySem.W.callWith_K0 I.kIn hk (run_fnS (us := []) F hr hb (hx σ) I .nil h)
theorem pe_callSA0 {sp : Sp} {E : St → XK} (F : FnOk X.prog X.w X.K X.mg X.base (L2.CX X.prog X.w) k f fd ps sp) (hr : Room k X.A) (hg : Gl X x) (hm : X.mg x = some (.ref f)) (hk : PySem.W.keepIn X.K (.ref f) = true) (hb : Binds X.K fd ps []) (hx : ∀ σ, PassesAt (L2.CX X.prog X.w) X σ (E σ))
    (hdb : (x == ("__debug__" : Str)) = false := by decide) : PE X (.Call (.Name x p) [] [] pos) (tCallS sp E (tA X.K c aNil)) := PE_imp (pe_callS0 F hr hg hm hk hb hx hdb) fun σ H Q q => by
  obtain ⟨π, ρ, G, S, k⟩ := q
  exact k.now S [] .nil
theorem ro_call0 (F : FnOk X.prog X.w X.K X.mg X.base (L2.CX X.prog X.w) k f fd ps (spD X.K c.Z n s)) (hn : ∀ as, s as ≠ .st → as.length = n) (hr : Room k X.A) (hg : Gl X x) (hm : X.mg x = some (.ref f)) (hk : PySem.W.keepIn X.K (.ref f) = true) (hb : Binds X.K fd ps []) (tk : Takes X c.W)
    (hdb : (x == ("__debug__" : Str)) = false := by decide) :
    PE X (.Call (.Name x p) [] [] pos) (tO X.K c (eCall s aNil)) := PE_imp (pe_callSA0 F hr hg hm hk hb (fun σ => passAt tk σ) hdb) fun σ H Q q => by
  obtain ⟨π, ρ, G, S, k⟩ := q
  refine ⟨π, ρ, G, S, (Po.bind k).mono fun ds ρ1 G1 H1 s1 e1 S1 k1 vs r => ?_⟩
  have SC := SE.args S1.sub r π
  have hlen : s (ds.map .v) ≠ .st → vs.length = n := fun z => by
    have := hn _ z
    rw [List.length_map] at this
    rw [r.length, this]
  cases z : s (ds.map Sl.v) with
  | ok rr as' =>
    simp only [z] at k1
    refine ⟨hlen (by rw [z]; exact fun q => by cases q), π, _, G1, SC, ?_⟩
    rw [z]
    intro G' H' s' e' S' w q
    obtain ⟨S2, e2⟩ := S1.after s' S'.sub fun b o hb => by
      obtain ⟨a1, _, a3⟩ := e' b o hb noOwn_v
      exact ⟨a1, a3⟩
    refine k1 G' H' s' e2 S2 w ?_
    cases rr with
    | v d => exact q
    | o d =>
      obtain ⟨pp, rfl, q1, q2, q3, q4⟩ := q
      have h1 : H1 pp = none := q4.resolve_right noOwn_v
      refine ⟨pp, rfl, q1, q2, fun z => ?_, ?_⟩
      · obtain ⟨_, o, ho⟩ := S1.own z
        rw [h1] at ho; cases ho
      · cases zz : H pp with
        | none => exact .inl rfl
        | some o =>
          by_cases m : Ownd ρ σ pp
          · exact .inr m
          · have := (e1 pp o zz m).1
            rw [h1] at this; cases this
    | un => exact False.elim q
    | io _ _ => exact False.elim q
  | rz xx as' =>
    simp only [z] at k1
    refine ⟨hlen (by rw [z]; exact fun q => by cases q), π, _, G1, SC, ?_⟩
    rw [z]
    intro cls d G' H' s' e' S' hz
    obtain ⟨S2, e2⟩ := S1.after s' S'.sub fun b o hb => by
      obtain ⟨a1, _, a3⟩ := e' b o hb noOwn_v
      exact ⟨a1, a3⟩
    exact k1 cls d G' H' s' e2 S2 hz
  | st => simp only [z] at k1; exact False.elim k1
end
end NV

set_option Elab.async false
set_option linter.all false
set_option maxRecDepth 100000
/-! M: words for the plain laws: loops, numbers, indexes. -/
namespace NV
def sq (r : Res Fl) (b : Es) : Res Fl := match r with
  | .ok .nx ρ => b ρ
  | r => r
def callR (r : Res Sl) (ρ : Env) : Res Sl := match r with
  | .ok r _ => .ok r ρ
  | .rz x _ => .rz x ρ
  | .st => .st
def runR (as : Env) (r : Res Fl) : Res Sl := match r with
  | .ok (.ret r) ρ => .ok r (lent as ρ)
  | .ok .nx ρ => .ok (.v .non) (lent as ρ)
  | .ok _ _ => .st
  | .rz x ρ => .rz x (lent as ρ)
  | .st => .st
def thawR (r : Res D) (ρ : Env) : Res D := match r with
  | .ok d _ => if d.flat then .ok d ρ else .st
  | _ => .st
/-! what stands behind a part, by name: simp then sees no body ahead of its turn -/
def k1 (g : D → Option D) (r : Res D) : Res D := r.bind fun a ρ => out (g a) ρ
@[simp] theorem k1_ok (g : D → Option D) (a : D) (ρ : Env) : k1 g (.ok a ρ) = out (g a) ρ := id rfl
@[simp] theorem k1_rz (g : D → Option D) (x : Exn) (ρ : Env) : k1 g (.rz x ρ) = .rz x ρ := id rfl
def k2b (g : D → D → Option D) (a : D) (r : Res D) : Res D := r.bind fun b ρ => out (g a b) ρ
@[simp] theorem k2b_ok (g : D → D → Option D) (a : D) (b : D) (ρ : Env) : k2b g a (.ok b ρ) = out (g a b) ρ := id rfl
@[simp] theorem k2b_rz (g : D → D → Option D) (a : D) (x : Exn) (ρ : Env) : k2b g a (.rz x ρ) = .rz x ρ := id rfl
def k2 (g : D → D → Option D) (h : Ev) (r : Res D) : Res D := r.bind fun a ρ => k2b g a (h ρ)
@[simp] theorem k2_ok (g : D → D → Option D) (h : Ev) (a : D) (ρ : Env) : k2 g h (.ok a ρ) = k2b g a (h ρ) := id rfl
@[simp] theorem k2_rz (g : D → D → Option D) (h : Ev) (x : Exn) (ρ : Env) : k2 g h (.rz x ρ) = .rz x ρ := id rfl
def kCb (a : D) (r : Res (List D)) : Res (List D) := r.bind fun as ρ => .ok (a :: as) ρ
@[simp] theorem kCb_ok (a : D) (as : (List D)) (ρ : Env) : kCb a (.ok as ρ) = .ok (a :: as) ρ := id rfl
@[simp] theorem kCb_rz (a : D) (x : Exn) (ρ : Env) : kCb a (.rz x ρ) = .rz x ρ := id rfl
def kC (fs : Ea) (r : Res D) : Res (List D) := r.bind fun a ρ => kCb a (fs ρ)
@[simp] theorem kC_ok (fs : Ea) (a : D) (ρ : Env) : kC fs (.ok a ρ) = kCb a (fs ρ) := id rfl
@[simp] theorem kC_rz (fs : Ea) (x : Exn) (ρ : Env) : kC fs (.rz x ρ) = .rz x ρ := id rfl
def kOwn  (r : Res D) : Res Sl := r.bind fun d ρ => .ok (.o d) ρ
@[simp] theorem kOwn_ok  (d : D) (ρ : Env) : kOwn  (.ok d ρ) = .ok (.o d) ρ := id rfl
@[simp] theorem kOwn_rz  (x : Exn) (ρ : Env) : kOwn  (.rz x ρ) = .rz x ρ := id rfl
def kSet (i : Nat) (r : Res D) : Res Fl := r.bind fun d ρ => .ok .nx (ρ.set i (.v d))
@[simp] theorem kSet_ok (i : Nat) (d : D) (ρ : Env) : kSet i (.ok d ρ) = .ok .nx (ρ.set i (.v d)) := id rfl
@[simp] theorem kSet_rz (i : Nat) (x : Exn) (ρ : Env) : kSet i (.rz x ρ) = .rz x ρ := id rfl
def kSetO (i : Nat) (r : Res Sl) : Res Fl := r.bind fun r1 ρ => .ok .nx (ρ.set i r1)
@[simp] theorem kSetO_ok (i : Nat) (r1 : Sl) (ρ : Env) : kSetO i (.ok r1 ρ) = .ok .nx (ρ.set i r1) := id rfl
@[simp] theorem kSetO_rz (i : Nat) (x : Exn) (ρ : Env) : kSetO i (.rz x ρ) = .rz x ρ := id rfl
def kRet  (r : Res D) : Res Fl := r.bind fun d ρ => .ok (.ret (.v d)) ρ
@[simp] theorem kRet_ok  (d : D) (ρ : Env) : kRet  (.ok d ρ) = .ok (.ret (.v d)) ρ := id rfl
@[simp] theorem kRet_rz  (x : Exn) (ρ : Env) : kRet  (.rz x ρ) = .rz x ρ := id rfl
def kRetO  (r : Res Sl) : Res Fl := r.bind fun r1 ρ => .ok (.ret r1) ρ
@[simp] theorem kRetO_ok  (r1 : Sl) (ρ : Env) : kRetO  (.ok r1 ρ) = .ok (.ret r1) ρ := id rfl
@[simp] theorem kRetO_rz  (x : Exn) (ρ : Env) : kRetO  (.rz x ρ) = .rz x ρ := id rfl
def kDrop  (r : Res D) : Res Fl := r.bind fun _ ρ => .ok .nx ρ
@[simp] theorem kDrop_ok  (z : D) (ρ : Env) : kDrop  (.ok z ρ) = .ok .nx ρ := id rfl
@[simp] theorem kDrop_rz  (x : Exn) (ρ : Env) : kDrop  (.rz x ρ) = .rz x ρ := id rfl
def kFor (t : Tg) (ks : List Nat) (b : Es) (r : Res (List D)) : Res Fl := r.bind fun xs ρ => forL t ks b xs (wipeE ρ ks)
@[simp] theorem kFor_ok (t : Tg) (ks : List Nat) (b : Es) (xs : (List D)) (ρ : Env) : kFor t ks b (.ok xs ρ) = forL t ks b xs (wipeE ρ ks) := id rfl
@[simp] theorem kFor_rz (t : Tg) (ks : List Nat) (b : Es) (x : Exn) (ρ : Env) : kFor t ks b (.rz x ρ) = .rz x ρ := id rfl
def kCall (s : Df) (r : Res (List D)) : Res Sl := r.bind fun ds ρ => callR (s (ds.map .v)) ρ
@[simp] theorem kCall_ok (s : Df) (ds : (List D)) (ρ : Env) : kCall s (.ok ds ρ) = callR (s (ds.map .v)) ρ := id rfl
@[simp] theorem kCall_rz (s : Df) (x : Exn) (ρ : Env) : kCall s (.rz x ρ) = .rz x ρ := id rfl
def kIE  (r : Res D) : Res (List D) := r.bind fun d ρ => outL (itD d) ρ
@[simp] theorem kIE_ok  (d : D) (ρ : Env) : kIE  (.ok d ρ) = outL (itD d) ρ := id rfl
@[simp] theorem kIE_rz  (x : Exn) (ρ : Env) : kIE  (.rz x ρ) = .rz x ρ := id rfl
def kAnd (h : Ev) (r : Res D) : Res D := r.bind fun a ρ => (match a with | .bl true => h ρ | .bl false => .ok (.bl false) ρ | _ => .st)
@[simp] theorem kAnd_ok (h : Ev) (a : D) (ρ : Env) : kAnd h (.ok a ρ) = (match a with | .bl true => h ρ | .bl false => .ok (.bl false) ρ | _ => .st) := id rfl
@[simp] theorem kAnd_rz (h : Ev) (x : Exn) (ρ : Env) : kAnd h (.rz x ρ) = .rz x ρ := id rfl
def kOr (h : Ev) (r : Res D) : Res D := r.bind fun a ρ => (match a with | .bl true => .ok (.bl true) ρ | .bl false => h ρ | _ => .st)
@[simp] theorem kOr_ok (h : Ev) (a : D) (ρ : Env) : kOr h (.ok a ρ) = (match a with | .bl true => .ok (.bl true) ρ | .bl false => h ρ | _ => .st) := id rfl
@[simp] theorem kOr_rz (h : Ev) (x : Exn) (ρ : Env) : kOr h (.rz x ρ) = .rz x ρ := id rfl
def kIf (f : Ev) (h : Ev) (r : Res D) : Res D := r.bind fun a ρ => (match a with | .bl true => f ρ | .bl false => h ρ | _ => .st)
@[simp] theorem kIf_ok (f : Ev) (h : Ev) (a : D) (ρ : Env) : kIf f h (.ok a ρ) = (match a with | .bl true => f ρ | .bl false => h ρ | _ => .st) := id rfl
@[simp] theorem kIf_rz (f : Ev) (h : Ev) (x : Exn) (ρ : Env) : kIf f h (.rz x ρ) = .rz x ρ := id rfl
def kC4 (g2 : D → D → Option D) (b : D) (r : Res D) : Res D := r.bind fun c ρ => out (g2 b c) ρ
@[simp] theorem kC4_ok (g2 : D → D → Option D) (b : D) (c : D) (ρ : Env) : kC4 g2 b (.ok c ρ) = out (g2 b c) ρ := id rfl
@[simp] theorem kC4_rz (g2 : D → D → Option D) (b : D) (x : Exn) (ρ : Env) : kC4 g2 b (.rz x ρ) = .rz x ρ := id rfl
def kC3 (g2 : D → D → Option D) (b : D) (l : Ev) (r : Res D) : Res D := r.bind fun z ρ => (match z with | .bl true => kC4 g2 b (l ρ) | .bl false => .ok (.bl false) ρ | _ => .st)
@[simp] theorem kC3_ok (g2 : D → D → Option D) (b : D) (l : Ev) (z : D) (ρ : Env) : kC3 g2 b l (.ok z ρ) = (match z with | .bl true => kC4 g2 b (l ρ) | .bl false => .ok (.bl false) ρ | _ => .st) := id rfl
@[simp] theorem kC3_rz (g2 : D → D → Option D) (b : D) (l : Ev) (x : Exn) (ρ : Env) : kC3 g2 b l (.rz x ρ) = .rz x ρ := id rfl
def kC2 (g : D → D → Option D) (g2 : D → D → Option D) (a : D) (l : Ev) (r : Res D) : Res D := r.bind fun b ρ => kC3 g2 b l (out (g a b) ρ)
@[simp] theorem kC2_ok (g : D → D → Option D) (g2 : D → D → Option D) (a : D) (l : Ev) (b : D) (ρ : Env) : kC2 g g2 a l (.ok b ρ) = kC3 g2 b l (out (g a b) ρ) := id rfl
@[simp] theorem kC2_rz (g : D → D → Option D) (g2 : D → D → Option D) (a : D) (l : Ev) (x : Exn) (ρ : Env) : kC2 g g2 a l (.rz x ρ) = .rz x ρ := id rfl
def kC1 (g : D → D → Option D) (g2 : D → D → Option D) (h : Ev) (l : Ev) (r : Res D) : Res D := r.bind fun a ρ => kC2 g g2 a l (h ρ)
@[simp] theorem kC1_ok (g : D → D → Option D) (g2 : D → D → Option D) (h : Ev) (l : Ev) (a : D) (ρ : Env) : kC1 g g2 h l (.ok a ρ) = kC2 g g2 a l (h ρ) := id rfl
@[simp] theorem kC1_rz (g : D → D → Option D) (g2 : D → D → Option D) (h : Ev) (l : Ev) (x : Exn) (ρ : Env) : kC1 g g2 h l (.rz x ρ) = .rz x ρ := id rfl
def kMb (g : D → D → Option D) (s : List Nat) (r : Res D) : Res D := r.bind fun b ρ => out (g (.str s) b) ρ
@[simp] theorem kMb_ok (g : D → D → Option D) (s : List Nat) (b : D) (ρ : Env) : kMb g s (.ok b ρ) = out (g (.str s) b) ρ := id rfl
@[simp] theorem kMb_rz (g : D → D → Option D) (s : List Nat) (x : Exn) (ρ : Env) : kMb g s (.rz x ρ) = .rz x ρ := id rfl
def kM (g : D → D → Option D) (h : Ev) (r : Res D) : Res D := r.bind fun a ρ => (match a with | .str s => kMb g s (h ρ) | _ => .st)
@[simp] theorem kM_ok (g : D → D → Option D) (h : Ev) (a : D) (ρ : Env) : kM g h (.ok a ρ) = (match a with | .str s => kMb g s (h ρ) | _ => .st) := id rfl
@[simp] theorem kM_rz (g : D → D → Option D) (h : Ev) (x : Exn) (ρ : Env) : kM g h (.rz x ρ) = .rz x ρ := id rfl
def kPt  (r : Res D) : Res (Option Int) := r.bind fun a ρ => (match a with | .int i => .ok (some i) ρ | _ => .st)
@[simp] theorem kPt_ok  (a : D) (ρ : Env) : kPt  (.ok a ρ) = (match a with | .int i => .ok (some i) ρ | _ => .st) := id rfl
@[simp] theorem kPt_rz  (x : Exn) (ρ : Env) : kPt  (.rz x ρ) = .rz x ρ := id rfl
def kT3 (a : D) (l : Option Int) (r : Res (Option Int)) : Res D := r.bind fun h ρ => out (opCut a l h) ρ
@[simp] theorem kT3_ok (a : D) (l : Option Int) (h : (Option Int)) (ρ : Env) : kT3 a l (.ok h ρ) = out (opCut a l h) ρ := id rfl
@[simp] theorem kT3_rz (a : D) (l : Option Int) (x : Exn) (ρ : Env) : kT3 a l (.rz x ρ) = .rz x ρ := id rfl
def kT2 (a : D) (hi : Option Ev) (r : Res (Option Int)) : Res D := r.bind fun l ρ => kT3 a l (pt hi ρ)
@[simp] theorem kT2_ok (a : D) (hi : Option Ev) (l : (Option Int)) (ρ : Env) : kT2 a hi (.ok l ρ) = kT3 a l (pt hi ρ) := id rfl
@[simp] theorem kT2_rz (a : D) (hi : Option Ev) (x : Exn) (ρ : Env) : kT2 a hi (.rz x ρ) = .rz x ρ := id rfl
def kT1 (lo : Option Ev) (hi : Option Ev) (r : Res D) : Res D := r.bind fun a ρ => kT2 a hi (pt lo ρ)
@[simp] theorem kT1_ok (lo : Option Ev) (hi : Option Ev) (a : D) (ρ : Env) : kT1 lo hi (.ok a ρ) = kT2 a hi (pt lo ρ) := id rfl
@[simp] theorem kT1_rz (lo : Option Ev) (hi : Option Ev) (x : Exn) (ρ : Env) : kT1 lo hi (.rz x ρ) = .rz x ρ := id rfl
def kTup  (r : Res (List D)) : Res D := r.bind fun as ρ => (if as.length ≤ line then .ok (.tup as) ρ else .st)
@[simp] theorem kTup_ok  (as : (List D)) (ρ : Env) : kTup  (.ok as ρ) = (if as.length ≤ line then .ok (.tup as) ρ else .st) := id rfl
@[simp] theorem kTup_rz  (x : Exn) (ρ : Env) : kTup  (.rz x ρ) = .rz x ρ := id rfl
def kLst  (r : Res (List D)) : Res D := r.bind fun as ρ => (if as.length ≤ line then .ok (.lst as) ρ else .st)
@[simp] theorem kLst_ok  (as : (List D)) (ρ : Env) : kLst  (.ok as ρ) = (if as.length ≤ line then .ok (.lst as) ρ else .st) := id rfl
@[simp] theorem kLst_rz  (x : Exn) (ρ : Env) : kLst  (.rz x ρ) = .rz x ρ := id rfl
def kVal  (r : Res Sl) : Res D := r.bind fun q ρ => (match q with | .v d => .ok d ρ | .o d => .ok d ρ | _ => .st)
@[simp] theorem kVal_ok  (q : Sl) (ρ : Env) : kVal  (.ok q ρ) = (match q with | .v d => .ok d ρ | .o d => .ok d ρ | _ => .st) := id rfl
@[simp] theorem kVal_rz  (x : Exn) (ρ : Env) : kVal  (.rz x ρ) = .rz x ρ := id rfl
def kSIf (a : Es) (b : Es) (r : Res D) : Res Fl := r.bind fun d ρ => (match d with | .bl true => a ρ | .bl false => b ρ | _ => .st)
@[simp] theorem kSIf_ok (a : Es) (b : Es) (d : D) (ρ : Env) : kSIf a b (.ok d ρ) = (match d with | .bl true => a ρ | .bl false => b ρ | _ => .st) := id rfl
@[simp] theorem kSIf_rz (a : Es) (b : Es) (x : Exn) (ρ : Env) : kSIf a b (.rz x ρ) = .rz x ρ := id rfl
def kTg (t : Tg) (r : Res D) : Res Fl := r.bind fun d ρ => (match t.put d ρ with | some ρ => .ok .nx ρ | none => .st)
@[simp] theorem kTg_ok (t : Tg) (d : D) (ρ : Env) : kTg t (.ok d ρ) = (match t.put d ρ with | some ρ => .ok .nx ρ | none => .st) := id rfl
@[simp] theorem kTg_rz (t : Tg) (x : Exn) (ρ : Env) : kTg t (.rz x ρ) = .rz x ρ := id rfl
def kAug2 (i : Nat) (g : D → D → Option D) (a : D) (r : Res D) : Res Fl := r.bind fun b ρ => kSet i (out (g a b) ρ)
@[simp] theorem kAug2_ok (i : Nat) (g : D → D → Option D) (a : D) (b : D) (ρ : Env) : kAug2 i g a (.ok b ρ) = kSet i (out (g a b) ρ) := id rfl
@[simp] theorem kAug2_rz (i : Nat) (g : D → D → Option D) (a : D) (x : Exn) (ρ : Env) : kAug2 i g a (.rz x ρ) = .rz x ρ := id rfl
def kPar (i : Nat) (j : Nat) (r : Res (List D)) : Res Fl := r.bind fun ds ρ => (match ds with | [a, b] => .ok .nx ((ρ.set i (.v a)).set j (.v b)) | _ => .st)
@[simp] theorem kPar_ok (i : Nat) (j : Nat) (ds : (List D)) (ρ : Env) : kPar i j (.ok ds ρ) = (match ds with | [a, b] => .ok .nx ((ρ.set i (.v a)).set j (.v b)) | _ => .st) := id rfl
@[simp] theorem kPar_rz (i : Nat) (j : Nat) (x : Exn) (ρ : Env) : kPar i j (.rz x ρ) = .rz x ρ := id rfl
def kR1  (r : Res D) : Res (List D) := r.bind fun d ρ => (match d with | .int b => if inR b then .ok (rng 0 b) ρ else .st | _ => .st)
@[simp] theorem kR1_ok  (d : D) (ρ : Env) : kR1  (.ok d ρ) = (match d with | .int b => if inR b then .ok (rng 0 b) ρ else .st | _ => .st) := id rfl
@[simp] theorem kR1_rz  (x : Exn) (ρ : Env) : kR1  (.rz x ρ) = .rz x ρ := id rfl
def kR2b (a : D) (r : Res D) : Res (List D) := r.bind fun b ρ => (match a, b with | .int a, .int b => if inR a && inR b then .ok (rng a b) ρ else .st | _, _ => .st)
@[simp] theorem kR2b_ok (a : D) (b : D) (ρ : Env) : kR2b a (.ok b ρ) = (match a, b with | .int a, .int b => if inR a && inR b then .ok (rng a b) ρ else .st | _, _ => .st) := id rfl
@[simp] theorem kR2b_rz (a : D) (x : Exn) (ρ : Env) : kR2b a (.rz x ρ) = .rz x ρ := id rfl
def kR2 (h : Ev) (r : Res D) : Res (List D) := r.bind fun a ρ => kR2b a (h ρ)
@[simp] theorem kR2_ok (h : Ev) (a : D) (ρ : Env) : kR2 h (.ok a ρ) = kR2b a (h ρ) := id rfl
@[simp] theorem kR2_rz (h : Ev) (x : Exn) (ρ : Env) : kR2 h (.rz x ρ) = .rz x ρ := id rfl
def kRev  (r : Res D) : Res (List D) := r.bind fun a ρ => (match a with | .lst xs => .ok xs.reverse ρ | _ => .st)
@[simp] theorem kRev_ok  (a : D) (ρ : Env) : kRev  (.ok a ρ) = (match a with | .lst xs => .ok xs.reverse ρ | _ => .st) := id rfl
@[simp] theorem kRev_rz  (x : Exn) (ρ : Env) : kRev  (.rz x ρ) = .rz x ρ := id rfl
def kEnum  (r : Res D) : Res (List D) := r.bind fun a ρ => (match a with | .lst xs => .ok (enumL 0 xs) ρ | _ => .st)
@[simp] theorem kEnum_ok  (a : D) (ρ : Env) : kEnum  (.ok a ρ) = (match a with | .lst xs => .ok (enumL 0 xs) ρ | _ => .st) := id rfl
@[simp] theorem kEnum_rz  (x : Exn) (ρ : Env) : kEnum  (.rz x ρ) = .rz x ρ := id rfl
def kZipb (a : D) (r : Res D) : Res (List D) := r.bind fun b ρ => (match a, b with | .lst xs, .lst ys => .ok (List.zipWith (fun x y => .tup [x, y]) xs ys) ρ | _, _ => .st)
@[simp] theorem kZipb_ok (a : D) (b : D) (ρ : Env) : kZipb a (.ok b ρ) = (match a, b with | .lst xs, .lst ys => .ok (List.zipWith (fun x y => .tup [x, y]) xs ys) ρ | _, _ => .st) := id rfl
@[simp] theorem kZipb_rz (a : D) (x : Exn) (ρ : Env) : kZipb a (.rz x ρ) = .rz x ρ := id rfl
def kZip (h : Ev) (r : Res D) : Res (List D) := r.bind fun a ρ => kZipb a (h ρ)
@[simp] theorem kZip_ok (h : Ev) (a : D) (ρ : Env) : kZip h (.ok a ρ) = kZipb a (h ρ) := id rfl
@[simp] theorem kZip_rz (h : Ev) (x : Exn) (ρ : Env) : kZip h (.rz x ρ) = .rz x ρ := id rfl
def kChg (i : Nat) (f : D → D → Option D) (r : Res D) : Res Fl := r.bind fun d ρ => chg i (f d) ρ
@[simp] theorem kChg_ok (i : Nat) (f : D → D → Option D) (d : D) (ρ : Env) : kChg i f (.ok d ρ) = chg i (f d) ρ := id rfl
@[simp] theorem kChg_rz (i : Nat) (f : D → D → Option D) (x : Exn) (ρ : Env) : kChg i f (.rz x ρ) = .rz x ρ := id rfl
def kComp (ws : List Nat) (ρ1 : Env) (r : Res (List D)) : Res D := match r with
  | .ok ds ρ2 => .ok (.lst ds) (unwipe ρ1 ρ2 ws)
  | _ => .st
@[simp] theorem kComp_ok (ws : List Nat) (ρ1 ρ2 : Env) (ds : List D) : kComp ws ρ1 (.ok ds ρ2) = .ok (.lst ds) (unwipe ρ1 ρ2 ws) := id rfl
section
variable {f h l : Ev} {fo : Eo} {fs : Ea} {it : Ei} {a b : Es} {c : Ev} {g : D → Option D} {g2 h2 : D → D → Option D} {ρ : Env} {d : D} {i j n k : Nat} {s : Df} {x : Exn} {r : Sl} {as : Env} {t : Tg} {ks : List Nat} {lo hi : Option Ev}
@[simp] theorem sq_nx : sq (.ok .nx ρ) b = b ρ := id rfl
@[simp] theorem sq_brk : sq (.ok .brk ρ) b = .ok .brk ρ := id rfl
@[simp] theorem sq_cnt : sq (.ok .cnt ρ) b = .ok .cnt ρ := id rfl
@[simp] theorem sq_ret : sq (.ok (.ret r) ρ) b = .ok (.ret r) ρ := id rfl
@[simp] theorem sq_rz : sq (.rz x ρ) b = .rz x ρ := id rfl
@[simp] theorem callR_ok {ρ2 : Env} : callR (.ok r ρ2) ρ = .ok r ρ := id rfl
@[simp] theorem callR_rz {ρ2 : Env} : callR (.rz x ρ2) ρ = .rz x ρ := id rfl
@[simp] theorem runR_ret : runR as (.ok (.ret r) ρ) = .ok r (lent as ρ) := id rfl
@[simp] theorem runR_nx : runR as (.ok .nx ρ) = .ok (.v .non) (lent as ρ) := id rfl
@[simp] theorem runR_rz : runR as (.rz x ρ) = .rz x (lent as ρ) := id rfl
@[simp] theorem thawR_ok {ρ2 : Env} : thawR (.ok d ρ2) ρ = if d.flat then .ok d ρ else .st := id rfl
@[simp] theorem eC_ap : eC d ρ = .ok d ρ := id rfl
@[simp] theorem eDct0_ap : eDct0 ρ = .ok (.dct []) ρ := id rfl
@[simp] theorem eV_ap : eV i ρ = (match ρ[i]? with | some (.v d) => .ok d ρ | _ => .st) := id rfl
@[simp] theorem e1_ap : e1 g f ρ = k1 g (f ρ) := id rfl
@[simp] theorem e2_ap : e2 g2 f h ρ = k2 g2 h (f ρ) := id rfl
@[simp] theorem eM_ap : eM g2 f h ρ = kM g2 h (f ρ) := id rfl
@[simp] theorem aNil_ap : aNil ρ = .ok [] ρ := id rfl
@[simp] theorem aCons_ap : aCons f fs ρ = kC fs (f ρ) := id rfl
@[simp] theorem own_ap : own f ρ = kOwn (f ρ) := id rfl
@[simp] theorem eAnd_ap : eAnd f h ρ = kAnd h (f ρ) := id rfl
@[simp] theorem eOr_ap : eOr f h ρ = kOr h (f ρ) := id rfl
@[simp] theorem eIf_ap : eIf c f h ρ = kIf f h (c ρ) := id rfl
@[simp] theorem eChain_ap : eChain g2 h2 f h l ρ = kC1 g2 h2 h l (f ρ) := id rfl
@[simp] theorem pt_n : pt none ρ = .ok none ρ := id rfl
@[simp] theorem pt_s : pt (some f) ρ = kPt (f ρ) := id rfl
@[simp] theorem eCut_ap : eCut f lo hi ρ = kT1 lo hi (f ρ) := id rfl
@[simp] theorem eTup_ap : eTup fs ρ = kTup (fs ρ) := id rfl
@[simp] theorem eLst_ap : eLst fs ρ = kLst (fs ρ) := id rfl
@[simp] theorem val_ap : val fo ρ = kVal (fo ρ) := id rfl
@[simp] theorem sNx_ap : sNx ρ = .ok .nx ρ := id rfl
@[simp] theorem sBrk_ap : sBrk ρ = .ok .brk ρ := id rfl
@[simp] theorem sCnt_ap : sCnt ρ = .ok .cnt ρ := id rfl
@[simp] theorem sSq_ap : sSq a b ρ = sq (a ρ) b := id rfl
@[simp] theorem sSet_ap : sSet i f ρ = kSet i (f ρ) := id rfl
@[simp] theorem sOwn_ap : sOwn i fo ρ = kSetO i (fo ρ) := id rfl
@[simp] theorem sRet_ap : sRet f ρ = kRet (f ρ) := id rfl
@[simp] theorem sRetO_ap : sRetO fo ρ = kRetO (fo ρ) := id rfl
@[simp] theorem sDrop_ap : sDrop f ρ = kDrop (f ρ) := id rfl
@[simp] theorem sIf_ap : sIf c a b ρ = kSIf a b (c ρ) := id rfl
@[simp] theorem sTg_ap : sTg t f ρ = kTg t (f ρ) := id rfl
@[simp] theorem sAug_ap : sAug i g2 f ρ = (match ρ[i]? with | some (.v a) => kAug2 i g2 a (f ρ) | _ => .st) := id rfl
@[simp] theorem sPar_ap : sPar i j fs ρ = kPar i j (fs ρ) := id rfl
@[simp] theorem sRetN_ap : sRetN i ρ = (match ρ[i]? with | some (.v d) => .ok (.ret (.v d)) ρ | some (.o d) => .ok (.ret (.o d)) (ρ.set i .un) | _ => .st) := id rfl
@[simp] theorem sFor_ap : sFor t ks it b ρ = kFor t ks b (it ρ) := id rfl
@[simp] theorem eCall_ap : eCall s fs ρ = kCall s (fs ρ) := id rfl
theorem run_ap (hl : as.length = n) : run n k a as = runR as (a (as ++ List.replicate k .un)) := by rw [run, if_pos hl]; rfl
@[simp] theorem eThaw_ap : eThaw f ρ = thawR (f (ρ.map Sl.frz)) ρ := id rfl
@[simp] theorem eFrz_ap : eFrz i f ρ = f (frz1 ρ i) := id rfl
@[simp] theorem iE_ap : iE f ρ = kIE (f ρ) := id rfl
@[simp] theorem iR1_ap : iR1 f ρ = kR1 (f ρ) := id rfl
@[simp] theorem iR2_ap : iR2 f h ρ = kR2 h (f ρ) := id rfl
@[simp] theorem iRev_ap : iRev f ρ = kRev (f ρ) := id rfl
@[simp] theorem iEnum_ap : iEnum f ρ = kEnum (f ρ) := id rfl
@[simp] theorem iZip_ap : iZip f h ρ = kZip h (f ρ) := id rfl
@[simp] theorem put_n {d : D} : (Tg.n i).put d ρ = some (ρ.set i (.v d)) := id rfl
@[simp] theorem wipe_nil : wipeE ρ [] = ρ := id rfl
@[simp] theorem wipe_cons : wipeE ρ (i :: ks) = (wipeE ρ ks).set i .un := id rfl
end
theorem Res.bind_eq {α β : Type} {r : Res α} {a : α} {ρ : Env} (h : r = .ok a ρ) (f : α → Env → Res β) : r.bind f = f a ρ := by rw [h]; rfl
section
variable {g : Tg} {ks : List Nat} {b : Es} {x : D} {r : List D} {ρ ρ1 ρ2 : Env}
theorem forL_nx (h1 : g.put x ρ = some ρ1) (h2 : b ρ1 = .ok .nx ρ2) : forL g ks b (x :: r) ρ = forL g ks b r (wipeE ρ2 ks) := by
  rw [forL]; simp only [h1, h2]
theorem forL_cnt (h1 : g.put x ρ = some ρ1) (h2 : b ρ1 = .ok .cnt ρ2) : forL g ks b (x :: r) ρ = forL g ks b r (wipeE ρ2 ks) := by
  rw [forL]; simp only [h1, h2]
theorem forL_brk (h1 : g.put x ρ = some ρ1) (h2 : b ρ1 = .ok .brk ρ2) : forL g ks b (x :: r) ρ = .ok .nx (wipeE ρ2 ks) := by
  rw [forL]; simp only [h1, h2]
theorem forL_ret {s : Sl} (h1 : g.put x ρ = some ρ1) (h2 : b ρ1 = .ok (.ret s) ρ2) : forL g ks b (x :: r) ρ = .ok (.ret s) ρ2 := by
  rw [forL]; simp only [h1, h2]
theorem forL_nil : forL g ks b [] ρ = .ok .nx ρ := rfl
end
theorem forL_inv {g : Tg} {ks : List Nat} {b : Es} (I : Nat → Env → Prop) : ∀ (xs : List D) (i : Nat) (ρ : Env), I i ρ → (∀ j x ρ, xs[j]? = some x → I (i + j) ρ → ∃ ρ1 ρ2, g.put x ρ = some ρ1 ∧ (b ρ1 = .ok .nx ρ2 ∨ b ρ1 = .ok .cnt ρ2) ∧ I (i + j + 1) (wipeE ρ2 ks)) → ∃ ρ', forL g ks b xs ρ = .ok .nx ρ' ∧ I (i + xs.length) ρ'
  | [], i, ρ, h, _ => ⟨ρ, rfl, h⟩
  | x :: r, i, ρ, h, hs => by
    obtain ⟨ρ1, ρ2, h1, h2, h4⟩ := hs 0 x ρ rfl h
    obtain ⟨ρ', h5, h6⟩ := forL_inv I r (i + 1) (wipeE ρ2 ks) h4 fun j y ρ hy hI => by
      have := hs (j + 1) y ρ (by simpa using hy) (by rwa [show i + (j + 1) = i + 1 + j by omega])
      rwa [show i + (j + 1) + 1 = i + 1 + j + 1 by omega] at this
    refine ⟨ρ', ?_, by rw [List.length_cons, show i + (r.length + 1) = i + 1 + r.length by omega]; exact h6⟩
    rcases h2 with h2 | h2
    · rw [forL_nx h1 h2]; exact h5
    · rw [forL_cnt h1 h2]; exact h5
/-- a loop that goes through, or returns r at the first x that fails -/
theorem forL_all {g : Tg} {ks : List Nat} {b : Es} {ρ : Env} (p : D → Bool) (r : Sl) : ∀ (xs : List D), (∀ x ∈ xs, ∃ ρ1 ρ2, g.put x ρ = some ρ1 ∧ (p x = true → b ρ1 = .ok .nx ρ2 ∧ wipeE ρ2 ks = ρ) ∧ (p x = false → b ρ1 = .ok (.ret r) ρ2)) →
    (xs.all p = true → forL g ks b xs ρ = .ok .nx ρ) ∧ (xs.all p = false → ∃ ρ', forL g ks b xs ρ = .ok (.ret r) ρ')
  | [], _ => ⟨fun _ => rfl, fun h => by cases h⟩
  | x :: xs, h => by
    obtain ⟨ρ1, ρ2, h1, h2, h3⟩ := h x List.mem_cons_self
    have ih := forL_all p r xs fun y hy => h y (List.mem_cons_of_mem _ hy)
    rw [List.all_cons]
    cases e : p x with
    | true =>
      obtain ⟨h4, h5⟩ := h2 e
      rw [forL_nx h1 h4, h5]
      exact ih
    | false => exact ⟨fun z => (by cases z), fun _ => ⟨ρ2, forL_ret h1 (h3 e)⟩⟩
/-- a loop as a fold -/
theorem forL_fold {σ : Type} {g : Tg} {ks : List Nat} {b : Es} (st : σ → Env) (f : σ → D → σ) : ∀ (xs : List D) (s : σ), (∀ (s : σ) x, x ∈ xs → ∃ ρ1 ρ2, g.put x (st s) = some ρ1 ∧ b ρ1 = .ok .nx ρ2 ∧ wipeE ρ2 ks = st (f s x)) → forL g ks b xs (st s) = .ok .nx (st (xs.foldl f s))
  | [], s, _ => rfl
  | x :: r, s, h => by
    obtain ⟨ρ1, ρ2, h1, h2, h3⟩ := h s x List.mem_cons_self
    rw [forL_nx h1 h2, h3]
    exact forL_fold st f r (f s x) fun s y hy => h s y (List.mem_cons_of_mem _ hy)
theorem big_ge {n : Nat} (h : n < 2 ^ 64) : n < big := Nat.lt_of_lt_of_le h (by unfold big; exact Nat.pow_le_pow_right (by decide) (by decide))
theorem mulOk_of {i j : Int} (hi : i.natAbs < 2 ^ 64) (hj : j.natAbs < 2 ^ 64) : mulOk i j = true := by
  unfold mulOk
  rw [decide_eq_true (big_ge hi), decide_eq_true (big_ge hj)]; rfl
theorem opMul_int {i j : Int} (hi : i.natAbs < 2 ^ 64) (hj : j.natAbs < 2 ^ 64) : opMul (.int i) (.int j) = some (.int (i * j)) := by
  rw [opMul, if_pos (mulOk_of hi hj)]
theorem opMod_int {i j : Int} (hj : 0 < j) : opMod (.int i) (.int j) = some (.int (i % j)) := by rw [opMod, if_pos hj]
theorem opDiv_int {i j : Int} (hj : 0 < j) (h : j.natAbs < 2 ^ 64) : opDiv (.int i) (.int j) = some (.int (i / j)) := by
  rw [opDiv, if_pos ⟨hj, Nat.lt_of_lt_of_le h (Nat.pow_le_pow_right (by decide) (by decide))⟩]
theorem opAdd_str {s t : List Nat} (h : s.length + t.length ≤ line) : opAdd (.str s) (.str t) = some (.str (s ++ t)) := by rw [opAdd, if_pos h]
theorem opAdd_int {i j : Int} : opAdd (.int i) (.int j) = some (.int (i + j)) := rfl
theorem opCut_str {s : List Nat} {lo hi : Option Int} (h : s.length ≤ line) : opCut (.str s) lo hi = some (.str (cut s lo hi)) := by rw [opCut, if_pos h]
theorem opLen_str {s : List Nat} (h : s.length ≤ line) : opLen (.str s) = some (.int s.length) := by rw [opLen, if_pos h]
theorem at_of {α : Type} {xs : List α} {i : Int} (h0 : 0 ≤ i) : at? xs i = xs[i.toNat]? := by
  unfold at? ixN
  rw [if_pos h0]
  by_cases h : i < xs.length
  · rw [if_pos h]; rfl
  · rw [if_neg h]
    show none = _
    rw [List.getElem?_eq_none (by omega)]
section
variable {i j : Int} {a b : Bool} {xs ys : List D} {s t : List Nat} {d : D}
@[simp] theorem opLen_scr : opLen (.scr xs) = some (.int xs.length) := id rfl
@[simp] theorem opLen_lst : opLen (.lst xs) = some (.int xs.length) := id rfl
@[simp] theorem opLen_tup : opLen (.tup xs) = some (.int xs.length) := id rfl
@[simp] theorem opAdd_i : opAdd (.int i) (.int j) = some (.int (i + j)) := id rfl
@[simp] theorem opIAdd_i : opIAdd (.int i) (.int j) = some (.int (i + j)) := id rfl
@[simp] theorem opSub_i : opSub (.int i) (.int j) = some (.int (i - j)) := id rfl
@[simp] theorem opNeg_i : opNeg (.int i) = some (.int (-i)) := id rfl
@[simp] theorem opNot_b : opNot (.bl a) = some (.bl (!a)) := id rfl
@[simp] theorem opLt_i : opLt (.int i) (.int j) = some (.bl (decide (i < j))) := id rfl
@[simp] theorem opLe_i : opLe (.int i) (.int j) = some (.bl (decide (i ≤ j))) := id rfl
@[simp] theorem opGt_i : opGt (.int i) (.int j) = some (.bl (decide (j < i))) := id rfl
@[simp] theorem opGe_i : opGe (.int i) (.int j) = some (.bl (decide (j ≤ i))) := id rfl
@[simp] theorem opEq_i : opEq (.int i) (.int j) = some (.bl (decide (i = j))) := by
  simp [opEq, D.lv, D.eqv]; by_cases h : i = j <;> simp [h]
@[simp] theorem opNe_i : opNe (.int i) (.int j) = some (.bl (decide (i ≠ j))) := by
  simp [opNe, D.lv, D.eqv]; by_cases h : i = j <;> simp [h]
@[simp] theorem opEq_b : opEq (.bl a) (.bl b) = some (.bl (a == b)) := by simp [opEq, D.lv, D.eqv]
@[simp] theorem opEq_nn : opEq .non .non = some (.bl true) := by simp [opEq, D.lv, D.eqv]
@[simp] theorem opMod_i (h : 0 < j) : opMod (.int i) (.int j) = some (.int (i % j)) := opMod_int h
@[simp] theorem itD_scr : itD (.scr xs) = some xs := id rfl
@[simp] theorem itD_lst : itD (.lst xs) = some xs := id rfl
@[simp] theorem itD_tup : itD (.tup xs) = some xs := id rfl
@[simp] theorem itD_str : itD (.str s) = some (s.map fun c => .str [c]) := id rfl
@[simp] theorem opIs_nn : opIs d .non = opIsN d := id rfl
@[simp] theorem opIsNot_nn : opIsNot d .non = opNotN d := id rfl
@[simp] theorem opCut_l {lo hi : Option Int} : opCut (.lst xs) lo hi = some (.lst (cut xs lo hi)) := id rfl
@[simp] theorem opCut_sc {lo hi : Option Int} : opCut (.scr xs) lo hi = some (.lst (cut xs lo hi)) := id rfl
@[simp] theorem opCut_t {lo hi : Option Int} : opCut (.tup xs) lo hi = some (.tup (cut xs lo hi)) := id rfl
end
theorem opIx_lst {xs : List D} {i : Int} (h0 : 0 ≤ i) : opIx (.lst xs) (.int i) = xs[i.toNat]? := by rw [opIx, at_of h0]
theorem opIx_scr {ns : List Int} {k : Nat} (h : k < ns.length) : opIx (.scr (ns.map D.int)) (.int (k : Int)) = some (.int (ns[k]?.getD 0)) := by
  rw [opIx, at_of (by omega), List.getElem?_map, Int.toNat_natCast, List.getElem?_eq_getElem h]; rfl
theorem opIx_str {s : List Nat} {i : Int} (hl : s.length ≤ line) (h0 : 0 ≤ i) (h : i < s.length) : ∃ c, c ∈ s ∧ opIx (.str s) (.int i) = some (.str [c]) := by
  refine ⟨s[i.toNat]'(by omega), List.getElem_mem _, ?_⟩
  rw [opIx, if_pos hl, at_of h0, List.getElem?_eq_getElem (by omega)]; rfl
theorem rng_get {a b : Int} {j : Nat} {x : D} (h : (rng a b)[j]? = some x) : x = .int (a + j) ∧ a + j < b := by
  unfold rng at h
  rw [List.getElem?_map] at h
  by_cases hj : j < (b - a).toNat
  · rw [List.getElem?_range hj] at h
    exact ⟨(Option.some.inj h).symm, by omega⟩
  · rw [List.getElem?_eq_none (by rw [List.length_range]; omega)] at h
    cases h
theorem rng_mem {a b : Int} {x : D} (h : x ∈ rng a b) : ∃ i : Int, x = .int i ∧ a ≤ i ∧ i < b := by
  obtain ⟨j, hj⟩ := List.getElem?_of_mem h
  obtain ⟨h1, h2⟩ := rng_get hj
  exact ⟨a + j, h1, by omega, h2⟩
theorem clip_nat (n d m : Nat) : clip n d (some (m : Int)) = min m n := by
  rw [clip, if_neg (by omega)]; rfl
theorem cut_take {α : Type} (xs : List α) (m : Nat) : cut xs none (some (m : Int)) = xs.take m := by
  unfold cut
  rw [clip_nat]
  show (List.drop 0 xs).take (min m xs.length - 0) = _
  rw [List.drop_zero, Nat.sub_zero]
  by_cases h : m ≤ xs.length
  · rw [Nat.min_eq_left h]
  · rw [Nat.min_eq_right (by omega), List.take_of_length_le (Nat.le_refl _), List.take_of_length_le (by omega)]
theorem cut_drop {α : Type} (xs : List α) (m : Nat) : cut xs (some (m : Int)) none = xs.drop m := by
  unfold cut
  rw [clip_nat]
  show (List.drop (min m xs.length) xs).take (xs.length - min m xs.length) = _
  rw [List.take_of_length_le (by rw [List.length_drop]; omega)]
  by_cases h : m ≤ xs.length
  · rw [Nat.min_eq_left h]
  · rw [List.drop_of_length_le (by omega), List.drop_of_length_le (by omega)]
theorem cut_mid {α : Type} (xs : List α) (m n : Nat) : cut xs (some (m : Int)) (some (n : Int)) = (xs.take n).drop m := by
  unfold cut
  rw [clip_nat, clip_nat, List.drop_take]
  by_cases h : m ≤ xs.length
  · rw [Nat.min_eq_left h]
    by_cases h2 : n ≤ xs.length
    · rw [Nat.min_eq_left h2]
    · rw [Nat.min_eq_right (by omega), List.take_of_length_le (by rw [List.length_drop]; omega), List.take_of_length_le (by rw [List.length_drop]; omega)]
  · rw [List.drop_of_length_le (by omega), List.drop_of_length_le (by omega)]; simp
theorem inR_of {b : Int} (h : -1000000000 ≤ b) (h2 : b ≤ 1000000000) : inR b = true := by
  unfold inR
  rw [decide_eq_true (by omega), decide_eq_true (by omega)]; rfl
theorem rng_len (a b : Int) : (rng a b).length = (b - a).toNat := by unfold rng; simp
/-- _law_mixed -/
def mix (c k : Int) : Int := ((c % 2147483647 * 69621 + 104659 * k * k + 7877) % 2147483647) * ((c % 2147483647 * 69621 + 104659 * k * k + 7877) % 2147483647) % 2147483587
theorem mix_nn (c k : Int) : 0 ≤ mix c k := Int.emod_nonneg _ (by decide)
theorem mix_lt (c k : Int) : mix c k < 2147483587 := Int.emod_lt_of_pos _ (by decide)
/-- _law_cell -/
def cell (ns : List Int) (k : Nat) : Int := ns[k]?.getD 0
end NV
namespace NV
/-! comprehensions -/
theorem unwipe_agree (a : Env) {ρ ρ' : Env} (hl : ρ.length = ρ'.length) : ∀ (ws : List Nat), (unwipe a ρ ws).length = (unwipe a ρ' ws).length ∧ ∀ j, (j ∈ ws ∨ ρ[j]? = ρ'[j]?) → (unwipe a ρ ws)[j]? = (unwipe a ρ' ws)[j]?
  | [] => ⟨hl, fun j h => h.resolve_left (by simp)⟩
  | i :: r => by
    obtain ⟨h1, h2⟩ := unwipe_agree a hl r
    refine ⟨by rw [unwipe, unwipe, List.length_set, List.length_set, h1], fun j h => ?_⟩
    rw [unwipe, unwipe, List.getElem?_set, List.getElem?_set, h1]
    by_cases e : i = j
    · rw [if_pos e, if_pos e]
    · rw [if_neg e, if_neg e]
      refine h2 j (h.imp (fun z => ?_) id)
      rcases List.mem_cons.mp z with z | z
      · exact absurd z.symm e
      · exact z
theorem wipe_len (ρ : Env) : ∀ ws : List Nat, (wipeE ρ ws).length = ρ.length
  | [] => rfl
  | i :: r => by rw [wipeE, List.length_set, wipe_len ρ r]
theorem wipe_out {ρ : Env} {j : Nat} : ∀ {ws : List Nat}, j ∉ ws → (wipeE ρ ws)[j]? = ρ[j]?
  | [], _ => rfl
  | i :: r, h => by
    rw [wipeE, List.getElem?_set_ne (fun e => h (by rw [e]; exact List.mem_cons_self))]
    exact wipe_out fun z => h (List.mem_cons_of_mem _ z)
theorem unwipe_of {a ρ ρ' : Env} {ws : List Nat} (h : wipeE ρ ws = wipeE ρ' ws) : unwipe a ρ ws = unwipe a (wipeE ρ' ws) ws := by
  have hl : ρ.length = (wipeE ρ' ws).length := by rw [← h, wipe_len]
  refine List.ext_getElem? fun j => (unwipe_agree a hl ws).2 j ?_
  by_cases m : j ∈ ws
  · exact .inl m
  · exact .inr (by rw [← h, wipe_out m])
theorem compL_map {g : Tg} {ws : List Nat} {f : Ev} {ρ0 : Env} (F : D → D) : ∀ (xs acc : List D) (ρ : Env), wipeE ρ ws = ρ0 → (∀ x ∈ xs, ∃ ρ1, g.put x ρ0 = some ρ1 ∧ f ρ1 = .ok (F x) ρ1 ∧ wipeE ρ1 ws = ρ0) → acc.length + xs.length ≤ line → ∃ ρ', compL g ws none f xs acc ρ = .ok (acc ++ xs.map F) ρ' ∧ wipeE ρ' ws = ρ0
  | [], acc, ρ, h, _, _ => ⟨ρ, by rw [compL, List.map_nil, List.append_nil], h⟩
  | x :: r, acc, ρ, h, hf, hl => by
    obtain ⟨ρ1, h1, h2, h3⟩ := hf x List.mem_cons_self
    rw [List.length_cons] at hl
    obtain ⟨ρ', h4, h5⟩ := compL_map F r (acc ++ [F x]) ρ1 h3 (fun y hy => hf y (List.mem_cons_of_mem _ hy)) (by rw [List.length_append, List.length_singleton]; omega)
    refine ⟨ρ', ?_, h5⟩
    rw [compL, h]
    simp only [h1, h2, Res.bind_ok]
    rw [if_pos (by omega), h4, List.append_assoc]
    rfl
theorem eComp_map {g : Tg} {ws : List Nat} {it : Ei} {f : Ev} {ρ : Env} (F : D → D) (xs : List D) (hit : it ρ = .ok xs ρ) (h : ∀ x ∈ xs, ∃ ρ1, g.put x (wipeE ρ ws) = some ρ1 ∧ f ρ1 = .ok (F x) ρ1 ∧ wipeE ρ1 ws = wipeE ρ ws) (hl : xs.length ≤ line) :
    eComp g ws it none f ρ = .ok (.lst (xs.map F)) (unwipe ρ (wipeE ρ ws) ws) := by
  obtain ⟨ρ', h1, h2⟩ := compL_map F xs [] ρ rfl h (by rw [List.length_nil]; omega)
  unfold eComp
  rw [hit, Res.bind_ok, h1]
  rw [List.nil_append]
  show Res.ok (D.lst (xs.map F)) (unwipe ρ ρ' ws) = _
  rw [unwipe_of h2]
section
variable {f : Ev} {fo : Eo} {ρ : Env} {i : Nat} {d : D} {xs : List D} {ρ0 : Env} {ws ws' : List Nat}
@[simp] theorem isO_ap : isO ρ i = (match ρ[i]? with | some (.o (.lst _)) => true | some (.io _ (.lst _)) => true | _ => false) := id rfl
@[simp] theorem oFrz_ap : oFrz i fo ρ = fo (frz1 ρ i) := id rfl
@[simp] theorem oComp_ap {g : Tg} {it : Ei} {cnd : Option Ev} : oComp g ws it cnd f ρ = kOwn (eComp g ws it cnd f ρ) := id rfl
@[simp] theorem put_t {is : List Nat} {ys : List D} : (Tg.t is).put (.tup ys) ρ = setAll is ys ρ := id rfl
@[simp] theorem sAppend_ap : sAppend i f ρ = if isO ρ i then kChg i hAppend (f ρ) else .st := id rfl
@[simp] theorem sExtend_ap : sExtend i f ρ = if isO ρ i then kChg i hExtend (f ρ) else .st := id rfl
theorem chg_ap (h : ρ[i]? = some (Sl.o (D.lst xs))) (hl : xs.length < line) : chg i (hAppend d) ρ = Res.ok Fl.nx (ρ.set i (Sl.o (D.lst (xs ++ [d])))) := by
  unfold chg
  rw [h]
  simp only [hAppend, if_pos hl]
@[simp] theorem unwipe_nil : unwipe ρ0 ρ [] = ρ := id rfl
@[simp] theorem unwipe_cons : unwipe ρ0 ρ (i :: ws) = (unwipe ρ0 ρ ws).set i (match ρ0[i]? with | some (.v d) => .v d | _ => .un) := id rfl
end
theorem rng_get0 {b : Int} {j : Nat} {x : D} (h : (rng 0 b)[j]? = some x) : x = .int (j : Int) ∧ (j : Int) < b := by
  obtain ⟨h1, h2⟩ := rng_get h
  rw [Int.zero_add] at h1 h2
  exact ⟨h1, h2⟩
/-! words over the first m letters -/
def IsW (m : Nat) (w : List Nat) : Prop := ∀ c ∈ w, 97 ≤ c ∧ c < 97 + m
theorem IsW.ok {m : Nat} {w : List Nat} (h : IsW m w) (hm : m ≤ 4) : w.all (fun c => decide (c < 1114112)) = true := by
  rw [List.all_eq_true]
  intro c hc
  have := h c hc
  rw [decide_eq_true_eq]
  omega
theorem IsW.app {m : Nat} {w v : List Nat} (h : IsW m w) (g : IsW m v) : IsW m (w ++ v) := fun c hc => by
  rcases List.mem_append.mp hc with q | q
  · exact h c q
  · exact g c q
theorem IsW.nil {m : Nat} : IsW m [] := fun c hc => by cases hc
/-- 'abcd'[i] -/
theorem abcd_ix {m : Nat} {i : Int} (h0 : 0 ≤ i) (h : i < m) (hm : m ≤ 4) : ∃ c : Nat, 97 ≤ c ∧ c < 97 + m ∧ opIx (.str [97, 98, 99, 100]) (.int i) = some (.str [c]) := by
  refine ⟨97 + i.toNat, by omega, by omega, ?_⟩
  have h2 : i = 0 ∨ i = 1 ∨ i = 2 ∨ i = 3 := by omega
  rcases h2 with rfl | rfl | rfl | rfl <;> simp [opIx, line, at?, ixN]
/-- 'abcd'.index(c) -/
theorem abcd_no {m c : Nat} (h0 : 97 ≤ c) (h : c < 97 + m) (hm : m ≤ 4) : opIndex (.str [97, 98, 99, 100]) (.str [c]) = some (.int ((c - 97 : Nat) : Int)) := by
  have h2 : c = 97 ∨ c = 98 ∨ c = 99 ∨ c = 100 := by omega
  rcases h2 with rfl | rfl | rfl | rfl <;> simp [opIndex, line, List.idxOf, List.findIdx, List.findIdx.go]
theorem cell_lt (ns : List Int) {k : Nat} (h : k < ns.length) : opIx (.scr (ns.map D.int)) (.int (k : Int)) = some (.int (cell ns k)) := opIx_scr h
theorem strs_map (ws : List (List Nat)) : strsD (ws.map D.str) = some ws := by
  induction ws with
  | nil => rfl
  | cons w r ih => rw [List.map_cons, strsD, ih]; rfl
theorem ints_map (ns : List Int) : intsD (ns.map D.int) = some ns := by
  induction ns with
  | nil => rfl
  | cons w r ih => rw [List.map_cons, intsD, ih]; rfl
theorem joinL_nil : ∀ ws : List (List Nat), joinL [] ws = ws.flatten
  | [] => rfl
  | [w] => by rw [joinL, List.flatten_cons, List.flatten_nil, List.append_nil]
  | w :: v :: r => by rw [joinL, joinL_nil (v :: r), List.append_nil, List.flatten_cons (l := w)]
theorem join_ok (ws : List (List Nat)) (h : (ws.map List.length).sum ≤ line) : opJoin (.str []) (.lst (ws.map D.str)) = some (.str ws.flatten) := by
  rw [opJoin, strs_map]
  show (if _ then _ else _) = _
  rw [List.length_nil, Nat.mul_zero, Nat.add_zero, if_pos h, joinL_nil]
theorem sum_ok (ns : List Int) : opSum (.lst (ns.map D.int)) = some (.int ns.sum) := by rw [opSum, ints_map]; rfl
theorem sumI (ws : List (List Nat)) : (ws.map fun w => (w.length : Int)).sum = ((ws.map List.length).sum : Nat) := by
  induction ws with
  | nil => rfl
  | cons w r ih => rw [List.map_cons, List.sum_cons, ih, List.map_cons, List.sum_cons]; omega
theorem le_sum {ws : List (List Nat)} {v : List Nat} (h : v ∈ ws) : v.length ≤ (ws.map List.length).sum := by
  induction ws with
  | nil => cases h
  | cons w r ih =>
    rw [List.map_cons, List.sum_cons]
    rcases List.mem_cons.mp h with rfl | h
    · omega
    · have := ih h; omega
theorem sum_le {ws : List (List Nat)} {b : Nat} (h : ∀ w ∈ ws, w.length ≤ b) : (ws.map List.length).sum ≤ ws.length * b := by
  induction ws with
  | nil => simp
  | cons w r ih =>
    rw [List.map_cons, List.sum_cons, List.length_cons]
    have h1 := h w List.mem_cons_self
    have h2 := ih fun v hv => h v (List.mem_cons_of_mem _ hv)
    rw [Nat.add_mul]; omega
/-- what the rule makes of a word -/
def imgs (ws : List (List Nat)) (w : List Nat) : List (List Nat) := w.map fun c => ws.getD (c - 97) []
def img (ws : List (List Nat)) (w : List Nat) : List Nat := (imgs ws w).flatten
theorem ix_rule {ws : List (List Nat)} {m c : Nat} (hl : ws.length = m) (h0 : 97 ≤ c) (h : c < 97 + m) : opIx (.tup (ws.map D.str)) (.int ((c - 97 : Nat) : Int)) = some (.str (ws.getD (c - 97) [])) := by
  rw [opIx, at_of (by omega), Int.toNat_natCast, List.getElem?_map, List.getElem?_eq_getElem (by omega), List.getD_eq_getElem?_getD, List.getElem?_eq_getElem (by omega)]; rfl
structure IsR (m b : Nat) (ws : List (List Nat)) : Prop where
  len : ws.length = m
  ok : ∀ w ∈ ws, IsW m w ∧ 1 ≤ w.length ∧ w.length ≤ b
theorem IsR.get {m b : Nat} {ws : List (List Nat)} (h : IsR m b ws) {i : Nat} (hi : i < m) : IsW m (ws.getD i []) ∧ 1 ≤ (ws.getD i []).length ∧ (ws.getD i []).length ≤ b := by
  rw [List.getD_eq_getElem?_getD, List.getElem?_eq_getElem (by rw [h.len]; exact hi)]
  exact h.ok _ (List.getElem_mem _)
theorem imgs_len {m b : Nat} {ws : List (List Nat)} (h : IsR m b ws) {w : List Nat} (hw : IsW m w) : ∀ v ∈ imgs ws w, IsW m v ∧ v.length ≤ b := fun v hv => by
  obtain ⟨c, hc, rfl⟩ := List.mem_map.mp hv
  have := hw c hc
  obtain ⟨h1, _, h2⟩ := h.get (i := c - 97) (by omega)
  exact ⟨h1, h2⟩
theorem img_w {m b : Nat} {ws : List (List Nat)} (h : IsR m b ws) {w : List Nat} (hw : IsW m w) : IsW m (img ws w) := fun c hc => by
  obtain ⟨v, hv, hc⟩ := List.mem_flatten.mp hc
  exact (imgs_len h hw v hv).1 c hc
theorem imgs_sum {m b : Nat} {ws : List (List Nat)} (h : IsR m b ws) {w : List Nat} (hw : IsW m w) : ((imgs ws w).map List.length).sum ≤ w.length * b := by
  have := sum_le (ws := imgs ws w) (b := b) fun v hv => (imgs_len h hw v hv).2
  rwa [imgs, List.length_map] at this
/-- numbers in a row: the script or a list -/
structure IsSc (sc : D) (ns : List Int) : Prop where
  len : opLen sc = some (.int ns.length)
  ix : ∀ k, k < ns.length → opIx sc (.int (k : Int)) = some (.int (cell ns k))
theorem sc_scr (ns : List Int) : IsSc (.scr (ns.map D.int)) ns := ⟨by rw [opLen_scr, List.length_map], fun k h => cell_lt ns h⟩
theorem sc_lst (ns : List Int) : IsSc (.lst (ns.map D.int)) ns := ⟨by rw [opLen_lst, List.length_map], fun k h => by
  rw [opIx, at_of (by omega), List.getElem?_map, Int.toNat_natCast, List.getElem?_eq_getElem h, cell, List.getElem?_eq_getElem h]; rfl⟩
/-- a rule behind a rule -/
def comp (fs ls : List (List Nat)) : List (List Nat) := fs.map (img ls)
theorem img_app (ls : List (List Nat)) (v w : List Nat) : img ls (v ++ w) = img ls v ++ img ls w := by
  unfold img imgs
  rw [List.map_append, List.flatten_append]
theorem img_flat (ls : List (List Nat)) : ∀ vs : List (List Nat), img ls vs.flatten = (vs.map (img ls)).flatten
  | [] => rfl
  | v :: r => by rw [List.flatten_cons, img_app, img_flat ls r, List.map_cons, List.flatten_cons]
theorem img_comp {m b : Nat} {fs ls : List (List Nat)} (hf : IsR m b fs) {w : List Nat} (hw : IsW m w) : img (comp fs ls) w = img ls (img fs w) := by
  unfold img
  rw [show (imgs ls (imgs fs w).flatten).flatten = img ls (imgs fs w).flatten from rfl, img_flat]
  congr 1
  unfold imgs
  rw [List.map_map]
  refine List.map_congr_left fun c hc => ?_
  have := hw c hc
  have hi : c - 97 < fs.length := by rw [hf.len]; omega
  unfold comp
  rw [List.getD_eq_getElem?_getD, List.getElem?_map, List.getElem?_eq_getElem hi]
  show img ls fs[c - 97] = img ls (fs.getD (c - 97) [])
  rw [List.getD_eq_getElem?_getD, List.getElem?_eq_getElem hi]
  rfl
theorem sum_ge {ws : List (List Nat)} (h : ∀ w ∈ ws, 1 ≤ w.length) : ws.length ≤ (ws.map List.length).sum := by
  induction ws with
  | nil => simp
  | cons w r ih =>
    rw [List.map_cons, List.sum_cons, List.length_cons]
    have h1 := h w List.mem_cons_self
    have h2 := ih fun v hv => h v (List.mem_cons_of_mem _ hv)
    omega
theorem comp_ok {m a b : Nat} {fs ls : List (List Nat)} (hf : IsR m a fs) (hl : IsR m b ls) : IsR m (a * b) (comp fs ls) := by
  refine ⟨by rw [comp, List.length_map, hf.len], fun v hv => ?_⟩
  obtain ⟨w, hw, rfl⟩ := List.mem_map.mp hv
  obtain ⟨h1, h2, h3⟩ := hf.ok w hw
  refine ⟨img_w hl h1, ?_, ?_⟩
  · have := sum_ge (ws := imgs ls w) fun v hv => by
      obtain ⟨c, hc, rfl⟩ := List.mem_map.mp hv
      have := h1 c hc
      exact (hl.get (i := c - 97) (by omega)).2.1
    rw [imgs, List.length_map] at this
    rw [img, List.length_flatten, imgs]
    omega
  · have := imgs_sum hl h1
    rw [img, List.length_flatten]
    exact Nat.le_trans this (Nat.mul_le_mul_right b h3)
theorem img_len {m b : Nat} {ws : List (List Nat)} (hr : IsR m b ws) {w : List Nat} (hw : IsW m w) : (img ws w).length ≤ w.length * b := by
  have := imgs_sum hr hw
  rwa [img, List.length_flatten]
end NV

set_option Elab.async false
set_option linter.all false
set_option maxRecDepth 100000
/-! M2: words for Sem2. -/
namespace NV
def kEnum2 (r : Res D) : Res (List D) := r.bind fun a ρ => (match itL a with | some xs => .ok (enumL 0 xs) ρ | none => .st)
@[simp] theorem kEnum2_ok (a : D) (ρ : Env) : kEnum2 (.ok a ρ) = (match itL a with | some xs => .ok (enumL 0 xs) ρ | none => .st) := id rfl
def kRev2 (r : Res D) : Res (List D) := r.bind fun a ρ => (match itR a with | some xs => .ok xs ρ | none => .st)
@[simp] theorem kRev2_ok (a : D) (ρ : Env) : kRev2 (.ok a ρ) = (match itR a with | some xs => .ok xs ρ | none => .st) := id rfl
section
variable {f : Ev} {ρ : Env} {xs : List D} {s : List Nat}
@[simp] theorem iEnum2_ap : iEnum2 f ρ = kEnum2 (f ρ) := id rfl
@[simp] theorem iRev2_ap : iRev2 f ρ = kRev2 (f ρ) := id rfl
@[simp] theorem itL_lst : itL (.lst xs) = some xs := id rfl
@[simp] theorem itR_lst : itR (.lst xs) = some xs.reverse := id rfl
theorem itR_str (h : s.length ≤ line) : itR (.str s) = some (s.map fun c => .str [c]).reverse := by rw [itR, if_pos h]
@[simp] theorem itL_str : itL (.str s) = some (s.map fun c => .str [c]) := id rfl
end
@[simp] theorem eListO_ap {i : Nat} {ρ : Env} : eListO i ρ = (match held ρ i with | some (.lst xs) => .ok (.lst xs) ρ | _ => .st) := id rfl
def kR2wb (a : D) (r : Res D) : Res (List D) := r.bind fun b ρ => (match a, b with | .int a, .int b => .ok (rng a b) ρ | _, _ => .st)
@[simp] theorem kR2wb_ok (a : D) (b : D) (ρ : Env) : kR2wb a (.ok b ρ) = (match a, b with | .int a, .int b => .ok (rng a b) ρ | _, _ => .st) := id rfl
def kR2w (h : Ev) (r : Res D) : Res (List D) := r.bind fun a ρ => kR2wb a (h ρ)
@[simp] theorem kR2w_ok (h : Ev) (a : D) (ρ : Env) : kR2w h (.ok a ρ) = kR2wb a (h ρ) := id rfl
@[simp] theorem iR2w_ap {f h : Ev} {ρ : Env} : iR2w f h ρ = kR2w h (f ρ) := id rfl
@[simp] theorem opInt_i {i : Int} : opInt (.int i) = some (.int i) := id rfl
@[simp] theorem opInt_b {b : Bool} : opInt (.bl b) = some (.int (if b then 1 else 0)) := id rfl
def dRes (r : Res Sl) (ρ : Env) (i : Nat) (mk : D → Sl) : Res Sl := match r with
  | .ok r (.io _ e :: _) => .ok r (ρ.set i (mk e))
  | .rz x (.io _ e :: _) => .rz x (ρ.set i (mk e))
  | _ => .st
def dCall (s : Df) (i : Nat) (ds : List D) (ρ : Env) : Option Sl → Res Sl
  | some (.o d) => dRes (s (.io 0 d :: ds.map .v)) ρ i .o
  | some (.io k d) => dRes (s (.io 0 d :: ds.map .v)) ρ i (.io k)
  | _ => .st
def kCallD (s : Df) (i : Nat) (r : Res (List D)) : Res Sl := r.bind fun ds ρ => dCall s i ds ρ ρ[i]?
@[simp] theorem kCallD_ok {s : Df} {i : Nat} {ds : List D} {ρ : Env} : kCallD s i (.ok ds ρ) = dCall s i ds ρ ρ[i]? := id rfl
@[simp] theorem dRes_ok {r : Sl} {k i : Nat} {e : D} {t ρ : Env} {mk : D → Sl} : dRes (.ok r (.io k e :: t)) ρ i mk = .ok r (ρ.set i (mk e)) := id rfl
@[simp] theorem dRes_rz {x : Exn} {k i : Nat} {e : D} {t ρ : Env} {mk : D → Sl} : dRes (.rz x (.io k e :: t)) ρ i mk = .rz x (ρ.set i (mk e)) := id rfl
@[simp] theorem dCall_o {s : Df} {i : Nat} {ds : List D} {ρ : Env} {d : D} : dCall s i ds ρ (some (.o d)) = dRes (s (.io 0 d :: ds.map .v)) ρ i .o := id rfl
@[simp] theorem dCall_io {s : Df} {i k : Nat} {ds : List D} {ρ : Env} {d : D} : dCall s i ds ρ (some (.io k d)) = dRes (s (.io 0 d :: ds.map .v)) ρ i (.io k) := id rfl
def kHeld : Option Sl → Res Sl → Res Sl
  | some (.o _), r => r
  | some (.io _ _), r => r
  | _, _ => .st
@[simp] theorem kHeld_o {d : D} {r : Res Sl} : kHeld (some (.o d)) r = r := id rfl
@[simp] theorem kHeld_io {k : Nat} {d : D} {r : Res Sl} : kHeld (some (.io k d)) r = r := id rfl
@[simp] theorem eCallD_ap {s : Df} {i : Nat} {fs : Ea} {ρ : Env} : eCallD s i fs ρ = kHeld ρ[i]? (kCallD s i (fs ρ)) := by
  unfold eCallD held
  cases e : ρ[i]? with
  | none => rfl
  | some s => cases s <;> rfl
/-! what a turn comes to, without its slots written out -/
structure Nx (ks : List Nat) (r : Res Fl) (P : Env → Prop) : Prop where
  eq : ∃ ρ, (r = .ok .nx ρ ∨ r = .ok .cnt ρ) ∧ P (wipeE ρ ks)
structure Rt (r : Res Fl) (s : Sl) : Prop where
  eq : ∃ ρ, r = .ok (.ret s) ρ
def Go (g : Tg) (b : Es) (x : D) (ρ : Env) : Res Fl := match g.put x ρ with
  | some ρ1 => b ρ1
  | none => .st
def GoE (g : Tg) (f : Ev) (x : D) (ρ : Env) : Res D := match g.put x ρ with
  | some ρ1 => f ρ1
  | none => .st
structure Vl (ws : List Nat) (r : Res D) (d : D) (ρ0 : Env) : Prop where
  eq : ∃ ρ, r = .ok d ρ ∧ wipeE ρ ws = ρ0
section
variable {ks ws : List Nat} {ρ ρ0 : Env} {P : Env → Prop} {s s' : Sl} {i : Nat} {is : List Nat} {b : Es} {f : Ev} {x d d' : D} {xs : List D}
@[simp] theorem Nx_nx : Nx ks (.ok .nx ρ) P ↔ P (wipeE ρ ks) := ⟨fun ⟨_, h, k⟩ => by rcases h with h | h <;> cases h; exact k, fun h => ⟨ρ, .inl rfl, h⟩⟩
@[simp] theorem Nx_cnt : Nx ks (.ok .cnt ρ) P ↔ P (wipeE ρ ks) := ⟨fun ⟨_, h, k⟩ => by rcases h with h | h <;> cases h; exact k, fun h => ⟨ρ, .inr rfl, h⟩⟩
@[simp] theorem Rt_ret : Rt (.ok (.ret s') ρ) s ↔ s' = s := ⟨fun ⟨_, h⟩ => by cases h; rfl, fun h => ⟨ρ, by rw [h]⟩⟩
@[simp] theorem Go_n : Go (.n i) b x ρ = b (ρ.set i (.v x)) := id rfl
@[simp] theorem GoE_n : GoE (.n i) f x ρ = f (ρ.set i (.v x)) := id rfl
@[simp] theorem Vl_ok : Vl ws (.ok d' ρ) d ρ0 ↔ (d' = d ∧ wipeE ρ ws = ρ0) := ⟨fun ⟨_, h, k⟩ => by cases h; exact ⟨rfl, k⟩, fun ⟨h, k⟩ => ⟨ρ, by rw [h], k⟩⟩
def goA (b : Es) (o : Option Env) : Res Fl := match o with
  | some ρ => b ρ
  | none => .st
def goAE (b : Ev) (o : Option Env) : Res D := match o with
  | some ρ => b ρ
  | none => .st
@[simp] theorem goA_s : goA b (some ρ) = b ρ := id rfl
@[simp] theorem goAE_s : goAE f (some ρ) = f ρ := id rfl
@[simp] theorem Go_t : Go (.t is) b (.tup xs) ρ = goA b (setAll is xs ρ) := id rfl
@[simp] theorem GoE_t : GoE (.t is) f (.tup xs) ρ = goAE f (setAll is xs ρ) := id rfl
@[simp] theorem Go_tl : Go (.t is) b (.lst xs) ρ = goA b (setAll is xs ρ) := id rfl
@[simp] theorem GoE_tl : GoE (.t is) f (.lst xs) ρ = goAE f (setAll is xs ρ) := id rfl
@[simp] theorem setAll_nil : setAll [] [] ρ = some ρ := id rfl
@[simp] theorem setAll_cons : setAll (i :: is) (x :: xs) ρ = setAll is xs (ρ.set i (.v x)) := id rfl
end
@[simp] theorem sWhile_ap {ks : List Nat} {c : Ev} {b : Es} {ρ : Env} : sWhile ks c b ρ = whileL ks c b fuel (wipeE ρ ks) := id rfl
theorem Go.of {g : Tg} {b : Es} {x : D} {ρ : Env} {r : Res Fl} (h : Go g b x ρ = r) (hr : r ≠ .st) : ∃ ρ1, g.put x ρ = some ρ1 ∧ b ρ1 = r := by
  unfold Go at h
  split at h
  · exact ⟨_, by assumption, h⟩
  · exact absurd h.symm hr
/-- a loop; q tells at which x it returns, and what -/
theorem forL_go {g : Tg} {ks : List Nat} {b : Es} (I : Nat → Env → Prop) (q : Nat → D → Option Sl) : ∀ (xs : List D) (i : Nat) (ρ : Env), I i ρ →
    (∀ j x ρ, xs[j]? = some x → I (i + j) ρ → (q (i + j) x = none → Nx ks (Go g b x ρ) (I (i + j + 1))) ∧ (∀ r, q (i + j) x = some r → Rt (Go g b x ρ) r)) →
    ((∀ j x, xs[j]? = some x → q (i + j) x = none) → ∃ ρ', forL g ks b xs ρ = .ok .nx ρ' ∧ I (i + xs.length) ρ') ∧ (∀ j x r, xs[j]? = some x → (∀ j' x', j' < j → xs[j']? = some x' → q (i + j') x' = none) → q (i + j) x = some r → ∃ ρ', forL g ks b xs ρ = .ok (.ret r) ρ')
  | [], i, ρ, h, _ => ⟨fun _ => ⟨ρ, rfl, h⟩, fun j x r h => by cases h⟩
  | x :: r, i, ρ, h, hs => by
    obtain ⟨h1, h2⟩ := hs 0 x ρ rfl h
    rw [Nat.add_zero] at h1 h2
    have step : q i x = none → ∃ ρ2, forL g ks b (x :: r) ρ = forL g ks b r (wipeE ρ2 ks) ∧ I (i + 1) (wipeE ρ2 ks) := fun e => by
      obtain ⟨ρ2, h3, h4⟩ := (h1 e).eq
      refine ⟨ρ2, ?_, h4⟩
      rcases h3 with h3 | h3
      · obtain ⟨ρ1, h5, h6⟩ := Go.of h3 (by simp)
        exact forL_nx h5 h6
      · obtain ⟨ρ1, h5, h6⟩ := Go.of h3 (by simp)
        exact forL_cnt h5 h6
    have ih := fun (ρ2 : Env) (hI : I (i + 1) ρ2) => forL_go (g := g) (ks := ks) (b := b) I q r (i + 1) ρ2 hI fun j y ρ hy hJ => by
      have := hs (j + 1) y ρ (by simpa using hy) (by rwa [show i + (j + 1) = i + 1 + j by omega])
      rwa [show i + (j + 1) = i + 1 + j by omega] at this
    constructor
    · intro hq
      obtain ⟨ρ2, e1, e2⟩ := step (hq 0 x rfl)
      rw [e1, List.length_cons, show i + (r.length + 1) = i + 1 + r.length by omega]
      exact (ih _ e2).1 fun j y hy => by
        have := hq (j + 1) y (by simpa using hy)
        rwa [show i + (j + 1) = i + 1 + j by omega] at this
    · intro j y s hy hb hq
      match j with
      | 0 =>
        obtain rfl : x = y := Option.some.inj hy
        obtain ⟨ρ2, h3⟩ := (h2 s hq).eq
        obtain ⟨ρ1, h5, h6⟩ := Go.of h3 (by simp)
        exact ⟨ρ2, forL_ret h5 h6⟩
      | j + 1 =>
        obtain ⟨ρ2, e1, e2⟩ := step (hb 0 x (by omega) rfl)
        rw [e1]
        refine (ih _ e2).2 j y s (by simpa using hy) (fun j' y' hj hy' => ?_) (by rwa [show i + 1 + j = i + (j + 1) by omega])
        have := hb (j' + 1) y' (by omega) (by simpa using hy')
        rwa [show i + (j' + 1) = i + 1 + j' by omega] at this
/-- a loop whose slots are known at each turn -/
theorem forL_at {g : Tg} {ks : List Nat} {b : Es} (st : Nat → Env) (xs : List D) (h : ∀ j x, xs[j]? = some x → Nx ks (Go g b x (st j)) (· = st (j + 1))) : forL g ks b xs (st 0) = .ok .nx (st xs.length) := by
  obtain ⟨ρ', h1, h2⟩ := (forL_go (g := g) (ks := ks) (b := b) (fun i ρ => ρ = st i) (fun _ _ => none) xs 0 (st 0) rfl fun j x ρ hx hI => ⟨fun _ => by
    rw [hI, Nat.zero_add]; exact h j x hx, fun r z => by cases z⟩).1 fun _ _ _ => rfl
  rw [h1, h2, Nat.zero_add]
/-- .. of which some turns return: findSome? tells which -/
theorem forL_some {g : Tg} {ks : List Nat} {b : Es} (st : Nat → Env) (q : D → Option Sl) (xs : List D) (h : ∀ j x, xs[j]? = some x → (q x = none → Nx ks (Go g b x (st j)) (· = st (j + 1))) ∧ (∀ r, q x = some r → Rt (Go g b x (st j)) r)) :
    (xs.findSome? q = none → forL g ks b xs (st 0) = .ok .nx (st xs.length)) ∧ (∀ r, xs.findSome? q = some r → ∃ ρ', forL g ks b xs (st 0) = .ok (.ret r) ρ') := by
  suffices ∀ (xs : List D) (i : Nat), (∀ j x, xs[j]? = some x → (q x = none → Nx ks (Go g b x (st (i + j))) (· = st (i + j + 1))) ∧ (∀ r, q x = some r → Rt (Go g b x (st (i + j))) r)) →
      (xs.findSome? q = none → forL g ks b xs (st i) = .ok .nx (st (i + xs.length))) ∧ (∀ r, xs.findSome? q = some r → ∃ ρ', forL g ks b xs (st i) = .ok (.ret r) ρ') by
    have := this xs 0 fun j x hx => by rw [Nat.zero_add]; exact h j x hx
    rwa [Nat.zero_add] at this
  intro xs
  induction xs with
  | nil => intro i _; exact ⟨fun _ => rfl, fun r h => by cases h⟩
  | cons x r ih =>
    intro i hs
    obtain ⟨h1, h2⟩ := hs 0 x rfl
    rw [Nat.add_zero] at h1 h2
    rw [List.findSome?_cons]
    cases e : q x with
    | some s =>
      obtain ⟨ρ2, h3⟩ := (h2 s e).eq
      obtain ⟨ρ1, h5, h6⟩ := Go.of h3 (by simp)
      exact ⟨fun z => (by cases z), fun t z => (by cases z; exact ⟨ρ2, forL_ret h5 h6⟩)⟩
    | none =>
      obtain ⟨ρ2, h3, h4⟩ := (h1 e).eq
      have el : forL g ks b (x :: r) (st i) = forL g ks b r (st (i + 1)) := by
        rcases h3 with h3 | h3
        · obtain ⟨ρ1, h5, h6⟩ := Go.of h3 (by simp)
          rw [forL_nx h5 h6, h4]
        · obtain ⟨ρ1, h5, h6⟩ := Go.of h3 (by simp)
          rw [forL_cnt h5 h6, h4]
      have := ih (i + 1) fun j y hy => by
        have := hs (j + 1) y (by simpa using hy)
        rwa [show i + (j + 1) = i + 1 + j by omega] at this
      rw [el, List.length_cons, show i + (r.length + 1) = i + 1 + r.length by omega]
      exact this
theorem eComp_go {g : Tg} {ws : List Nat} {it : Ei} {f : Ev} {ρ : Env} (F : D → D) (xs : List D) (hit : it ρ = .ok xs ρ) (h : ∀ x ∈ xs, Vl ws (GoE g f x (wipeE ρ ws)) (F x) (wipeE ρ ws)) (hl : xs.length ≤ line) :
    eComp g ws it none f ρ = .ok (.lst (xs.map F)) (unwipe ρ (wipeE ρ ws) ws) := by
  suffices ∀ (ys acc : List D) (ρ1 : Env), (∀ x ∈ ys, Vl ws (GoE g f x (wipeE ρ ws)) (F x) (wipeE ρ ws)) → wipeE ρ1 ws = wipeE ρ ws → acc.length + ys.length ≤ line → ∃ ρ', compL g ws none f ys acc ρ1 = .ok (acc ++ ys.map F) ρ' ∧ wipeE ρ' ws = wipeE ρ ws by
    obtain ⟨ρ', h1, h2⟩ := this xs [] ρ h rfl (by rw [List.length_nil]; omega)
    unfold eComp
    rw [hit, Res.bind_ok, h1]
    rw [List.nil_append]
    show Res.ok (D.lst (xs.map F)) (unwipe ρ ρ' ws) = _
    rw [unwipe_of h2]
  intro ys
  induction ys with
  | nil => intro acc ρ1 _ h2 _; exact ⟨ρ1, by rw [compL, List.map_nil, List.append_nil], h2⟩
  | cons x r ih =>
    intro acc ρ1 h1 h2 h3
    have hx := h1 x List.mem_cons_self
    rw [List.length_cons] at h3
    obtain ⟨ρ4, hx1, hx2⟩ := hx
    unfold GoE at hx1
    cases e : g.put x (wipeE ρ ws) with
    | none => rw [e] at hx1; cases hx1
    | some ρ3 =>
      rw [e] at hx1
      have e2 : f ρ3 = .ok (F x) ρ4 := hx1
      obtain ⟨ρ', h5, h6⟩ := ih (acc ++ [F x]) ρ4 (fun y hy => h1 y (List.mem_cons_of_mem _ hy)) hx2 (by rw [List.length_append, List.length_singleton]; omega)
      refine ⟨ρ', ?_, h6⟩
      rw [compL, h2]
      simp only [e, e2, Res.bind_ok]
      rw [if_pos (by omega), h5, List.append_assoc]
      rfl
theorem whileL_at {ks : List Nat} {c : Ev} {b : Es} (st : Nat → Env) (n : Nat) (hc : ∀ j, j < n → c (st j) = .ok (.bl true) (st j)) (hb : ∀ j, j < n → Nx ks (b (st j)) (· = st (j + 1))) (hd : c (st n) = .ok (.bl false) (st n)) (hf : n < 1000000) : whileL ks c b fuel (st 0) = .ok .nx (st n) := by
  suffices ∀ (k f i : Nat), i + k = n → k < f → whileL ks c b f (st i) = .ok .nx (st n) from this n fuel 0 (by omega) hf
  intro k
  induction k with
  | zero =>
    intro f i hi hk
    obtain rfl : i = n := by omega
    match f, hk with
    | f + 1, _ => rw [whileL, hd]; rfl
  | succ k ih =>
    intro f i hi hk
    match f, hk with
    | f + 1, hk =>
      rw [whileL, hc i (by omega)]
      obtain ⟨ρ, h, e⟩ := hb i (by omega)
      have := ih f (i + 1) (by omega) (by omega)
      rw [← e] at this
      rcases h with h | h
      · simp only [Res.bind_ok, h]; exact this
      · simp only [Res.bind_ok, h]; exact this
theorem opIx_last (xs : List D) (x : D) : opIx (.lst (xs ++ [x])) (.int (-1)) = some x := by
  rw [opIx, at?, ixN, if_neg (by decide), if_pos (by rw [List.length_append, List.length_singleton]; omega)]
  have e : ((-1 : Int) + ((xs ++ [x]).length : Nat)).toNat = xs.length := by rw [List.length_append, List.length_singleton]; omega
  rw [e]
  simp
theorem eComp_if {g : Tg} {ws : List Nat} {it : Ei} {c f : Ev} {ρ : Env} (p : D → Bool) (F : D → D) (xs : List D) (hit : it ρ = .ok xs ρ) (h : ∀ x ∈ xs, Vl ws (GoE g c x (wipeE ρ ws)) (.bl (p x)) (wipeE ρ ws) ∧ (p x = true → Vl ws (GoE g (eIf c f (eC .non)) x (wipeE ρ ws)) (F x) (wipeE ρ ws))) (hl : xs.length ≤ line) :
    eComp g ws it (some c) f ρ = .ok (.lst ((xs.filter p).map F)) (unwipe ρ (wipeE ρ ws) ws) := by
  suffices ∀ (ys acc : List D) (ρ1 : Env), (∀ x ∈ ys, Vl ws (GoE g c x (wipeE ρ ws)) (.bl (p x)) (wipeE ρ ws) ∧ (p x = true → Vl ws (GoE g (eIf c f (eC .non)) x (wipeE ρ ws)) (F x) (wipeE ρ ws))) → wipeE ρ1 ws = wipeE ρ ws → acc.length + ys.length ≤ line → ∃ ρ', compL g ws (some c) f ys acc ρ1 = .ok (acc ++ (ys.filter p).map F) ρ' ∧ wipeE ρ' ws = wipeE ρ ws by
    obtain ⟨ρ', h1, h2⟩ := this xs [] ρ h rfl (by rw [List.length_nil]; omega)
    unfold eComp
    rw [hit, Res.bind_ok, h1]
    rw [List.nil_append]
    show Res.ok (D.lst ((xs.filter p).map F)) (unwipe ρ ρ' ws) = _
    rw [unwipe_of h2]
  intro ys
  induction ys with
  | nil => intro acc ρ1 _ h2 _; exact ⟨ρ1, by rw [compL, List.filter_nil, List.map_nil, List.append_nil], h2⟩
  | cons x r ih =>
    intro acc ρ1 h1 h2 h3
    obtain ⟨hx, hf⟩ := h1 x List.mem_cons_self
    rw [List.length_cons] at h3
    obtain ⟨ρ4, hx1, hx2⟩ := hx
    unfold GoE at hx1
    cases e : g.put x (wipeE ρ ws) with
    | none => rw [e] at hx1; cases hx1
    | some ρ3 =>
      rw [e] at hx1
      have e2 : c ρ3 = .ok (.bl (p x)) ρ4 := hx1
      cases hp : p x with
      | false =>
        rw [hp] at e2
        obtain ⟨ρ', h5, h6⟩ := ih acc ρ4 (fun y hy => h1 y (List.mem_cons_of_mem _ hy)) hx2 (by omega)
        refine ⟨ρ', ?_, h6⟩
        rw [compL, h2, List.filter_cons, hp]
        simp only [e, e2, Res.bind_ok]
        exact h5
      | true =>
        obtain ⟨ρ5, hy1, hy2⟩ := hf hp
        rw [hp] at e2
        unfold GoE at hy1
        rw [e] at hy1
        have e3 : f ρ4 = .ok (F x) ρ5 := by
          have : eIf c f (eC .non) ρ3 = .ok (F x) ρ5 := hy1
          unfold eIf at this
          rw [e2] at this
          exact this
        obtain ⟨ρ', h5, h6⟩ := ih (acc ++ [F x]) ρ5 (fun y hy => h1 y (List.mem_cons_of_mem _ hy)) hy2 (by rw [List.length_append, List.length_singleton]; omega)
        refine ⟨ρ', ?_, h6⟩
        rw [compL, h2, List.filter_cons, hp]
        simp only [e, e2, e3, Res.bind_ok]
        rw [if_pos (by omega), h5, List.append_assoc]
        rfl
/-- a comprehension that changes slots: st tells them at each turn -/
theorem eComp_st {g : Tg} {ws : List Nat} {it : Ei} {f : Ev} {ρ ρ0 : Env} (st : Nat → Env) (F : Nat → D) (xs : List D) (hit : it ρ = .ok xs ρ0) (h0 : wipeE ρ0 ws = st 0) (hw : ∀ j, wipeE (st j) ws = st j) (h : ∀ j x, xs[j]? = some x → Vl ws (GoE g f x (st j)) (F j) (st (j + 1))) (hl : xs.length ≤ line) :
    eComp g ws it none f ρ = .ok (.lst ((List.range xs.length).map F)) (unwipe ρ0 (st xs.length) ws) := by
  suffices ∀ (ys acc : List D) (i : Nat) (ρ1 : Env), (∀ j x, ys[j]? = some x → Vl ws (GoE g f x (st (i + j))) (F (i + j)) (st (i + j + 1))) → wipeE ρ1 ws = st i → acc.length + ys.length ≤ line → ∃ ρ', compL g ws none f ys acc ρ1 = .ok (acc ++ (List.range ys.length).map (fun j => F (i + j))) ρ' ∧ wipeE ρ' ws = st (i + ys.length) by
    obtain ⟨ρ', h1, h2⟩ := this xs [] 0 ρ0 (fun j x hx => by rw [Nat.zero_add]; exact h j x hx) h0 (by rw [List.length_nil]; omega)
    unfold eComp
    rw [hit, Res.bind_ok, h1]
    rw [List.nil_append]
    show Res.ok (D.lst _) (unwipe ρ0 ρ' ws) = _
    rw [Nat.zero_add] at h2
    rw [unwipe_of (h2.trans (hw _).symm), hw]
    congr 2
    exact List.map_congr_left fun j _ => by rw [Nat.zero_add]
  intro ys
  induction ys with
  | nil => intro acc i ρ1 _ h2 _; exact ⟨ρ1, by rw [compL]; simp, h2⟩
  | cons x r ih =>
    intro acc i ρ1 h1 h2 h3
    obtain ⟨ρ4, hx1, hx2⟩ := h1 0 x rfl
    rw [Nat.add_zero] at hx1 hx2
    rw [List.length_cons] at h3
    unfold GoE at hx1
    cases e : g.put x (st i) with
    | none => rw [e] at hx1; cases hx1
    | some ρ3 =>
      rw [e] at hx1
      have e2 : f ρ3 = .ok (F i) ρ4 := hx1
      obtain ⟨ρ', h5, h6⟩ := ih (acc ++ [F i]) (i + 1) ρ4 (fun j y hy => by
        have := h1 (j + 1) y (by simpa using hy)
        rwa [show i + (j + 1) = i + 1 + j by omega] at this) hx2 (by rw [List.length_append, List.length_singleton]; omega)
      refine ⟨ρ', ?_, by rw [h6, List.length_cons, show i + 1 + r.length = i + (r.length + 1) by omega]⟩
      rw [compL, h2]
      simp only [e, e2, Res.bind_ok]
      rw [if_pos (by omega), h5, List.append_assoc, List.length_cons, List.range_succ_eq_map, List.map_cons, List.map_map]
      congr 2
      rw [Nat.add_zero]
      show [F i] ++ _ = F i :: _
      rw [List.singleton_append]
      congr 1
      exact List.map_congr_left fun j _ => by show F (i + 1 + j) = F (i + (j + 1)); rw [show i + 1 + j = i + (j + 1) by omega]
end NV

set_option Elab.async false
set_option linter.all false
set_option maxRecDepth 100000
/-! k65_whole_behind_keeps: what the defs of the law compute, in plain data. -/
namespace NV.K65
open NV
def c_DOUBLES : D := .tup [.int 2, .int 1, .bl false]
def c_LETTERS : D := .str [97, 98, 99, 100]
def c_MOST_IMAGE : D := .int 20000
def c_MOST_LOOKED : D := .int 800
def c_MOST_WORD_keeping : D := .int 12
def c_MOST_WORD_rules : D := .int 100
/- law_draws(law_script): slots 0=law_script 1=law_cells 2=law_by_digits 3=law_left 4=law_found 5=law_k 6=law_at 7=law_number -/
def b_law_draws_1 : Es := (sSq (sSet 6 (eThaw (e2 opMod (eV 5) (e1 opLen (eV 1)))))
  (sSq (sSet 7 (eThaw (e2 opMod (e2 opIx (eV 3) (eV 6)) (eC (.int 2147483629)))))
  (sSq (sIf (eThaw (eAnd (eV 2) (e2 opNotIn (e2 opIx (eV 3) (eV 6)) (eLst (aCons (eC (.int 0)) (aCons (e1 opNeg (eC (.int 1))) aNil))))))
  (sSetIx 3 (eV 6) (eThaw (e2 opDiv (e2 opIx (eV 3) (eV 6)) (eC (.int 2147483629))))) (sSq (sSet 7 (eThaw (e2 opMod (e2 opAdd (e2 opAdd (e2 opMul (e2 opMod (e2 opIx (eV 1) (eV 6)) (eC (.int 2147483629))) (eC (.int 48271))) (e2 opMul (e2 opMul (eC (.int 7919)) (eV 5)) (eV 5))) (eC (.int 104729))) (eC (.int 2147483647)))))
  (sSq (sSet 7 (e2 opMod (e2 opMul (eV 7) (eV 7)) (eC (.int 2147483629))))
  (sSet 7 (e2 opMod (e2 opMul (e2 opMod (e2 opAdd (e2 opMul (eV 7) (eC (.int 69621))) (e2 opMul (eC (.int 3571)) (eV 5))) (eC (.int 2147483563))) (eV 7)) (eC (.int 2147483629)))))))
  (sAppend 4 (eV 7)))))
def g_law_draws : Es := (sSq (sOwn 1 (own (eCutL (e2 opAdd (e1 opList (eCut (eV 0) none (some (eC (.int 63))))) (eLst (aCons (eC (.int 0)) aNil))) none (some (e2 opMax2 (eC (.int 1)) (e2 opMin2 (e1 opLen (eV 0)) (eC (.int 63))))))))
  (sSq (sSet 2 (eThaw (e2 opEq (e2 opMod (e2 opIx (eV 1) (eC (.int 0))) (eC (.int 2))) (eC (.int 1)))))
  (sSq (sSetIx 1 (eC (.int 0)) (eThaw (e2 opDiv (e2 opIx (eV 1) (eC (.int 0))) (eC (.int 2)))))
  (sSq (sOwn 3 (oFrz 1 (own (e1 opList (eV 1)))))
  (sSq (sOwn 4 (own (eLst aNil)))
  (sSq (sFor (.n 5) [5, 6, 7] (iR1 (eC (.int 600))) b_law_draws_1)
  (sRetO (oFrz 4 (own (e1 opRevL (eV 4)))))))))))
def s_law_draws : Df := run 1 7 g_law_draws
/- law_next(law_drawn): slots 0=law_drawn -/
def g_law_next : Es := (sSq (sIf (eThaw (e2 opEq (eV 0) (eLst aNil)))
  (sRet (eC (.int 0))) sNx)
  (sRet (ePop 0)))
def s_law_next : Df := run 1 0 g_law_next
/- law_renamed(law_word, law_turn): slots 0=law_word 1=law_turn 2=law_sign -/
def x_law_renamed_1 : Ev := (e2 opIx (eC (.str [97, 98, 99, 100])) (e2 opMod (e2 opAdd (eM opIndex (eC (.str [97, 98, 99, 100])) (eV 2)) (eV 1)) (eC (.int 4))))
def g_law_renamed : Es := (sRet (eM opJoin (eC (.str [])) (eComp (.n 2) [2] (iE (eV 0)) none x_law_renamed_1)))
def s_law_renamed : Df := run 2 1 g_law_renamed
/- law_kept(law_drawn): slots 0=law_drawn 1=law_step 2=law_first 3=law_words 4=law_turn 5=law_ahead 6=law_word 7=law_k -/
def x_law_kept_1 : Ev := (e2 opIx (eC (.str [97, 98, 99, 100])) (e2 opMod (e2 opAdd (e2 opMul (eV 7) (eV 1)) (eV 2)) (eC (.int 4))))
def x_law_kept_2 : Ev := (val (eCall s_law_renamed (aCons (e2 opIx (eLst (aCons (e2 opAdd (eV 6) (eC (.str [100]))) (aCons (e2 opAdd (eC (.str [100])) (eV 6)) aNil))) (eV 5)) (aCons (eV 4) aNil))))
def g_law_kept : Es := (sSq (sIf (e2 opEq (e2 opMod (val (eCallD s_law_next 0 aNil)) (eC (.int 5))) (eC (.int 0)))
  (sSq (sSet 1 (e2 opIx (eLst (aCons (eC (.int 1)) (aCons (eC (.int 3)) aNil))) (e2 opMod (val (eCallD s_law_next 0 aNil)) (eC (.int 2)))))
  (sSq (sSet 2 (e2 opMod (val (eCallD s_law_next 0 aNil)) (eC (.int 4))))
  (sRet (e1 opTuple (eComp (.n 7) [7] (iR1 (eC (.int 4))) none x_law_kept_1))))) sNx)
  (sSq (sSet 3 (eLst (aCons (eC (.str [97, 98])) (aCons (eC (.str [97, 99])) (aCons (eC (.str [98, 97])) (aCons (eC (.str [99, 97])) aNil))))))
  (sSq (sSet 4 (e2 opMod (val (eCallD s_law_next 0 aNil)) (eC (.int 4))))
  (sSq (sSet 3 (e2 opAdd (eCut (eV 3) (some (eV 4)) none) (eCut (eV 3) none (some (eV 4)))))
  (sSq (sSet 5 (e2 opMod (val (eCallD s_law_next 0 aNil)) (eC (.int 2))))
  (sSq (sSet 4 (e2 opMod (val (eCallD s_law_next 0 aNil)) (eC (.int 4))))
  (sRet (e1 opTuple (eComp (.n 6) [6] (iE (eV 3)) none x_law_kept_2)))))))))
def s_law_kept : Df := run 1 7 g_law_kept
/- number_of(letter): slots 0=letter -/
def g_number_of : Es := (sRet (eM opIndex (eC c_LETTERS) (eV 0)))
def s_number_of : Df := run 1 0 g_number_of
/- image_within(rule, word, most): slots 0=rule 1=word 2=most 3=parts 4=sign 5=part -/
def x_image_within_1 : Ev := (e2 opIx (eV 0) (val (eCall s_number_of (aCons (eV 4) aNil))))
def g_image_within : Es := (sSq (sSet 3 (eComp (.n 4) [4] (iE (eV 1)) none x_image_within_1))
  (sSq (sIf (e2 opGt (e1 opSum (eComp (.n 5) [5] (iE (eV 3)) none (e1 opLen (eV 5)))) (eV 2))
  sSt sNx)
  (sRet (eM opJoin (eC (.str [])) (eV 3)))))
def s_image_within : Df := run 3 3 g_image_within
/- behind(first, later): slots 0=first 1=later 2=word -/
def x_behind_1 : Ev := (val (eCall s_image_within (aCons (eV 1) (aCons (eV 2) (aCons (eC c_MOST_WORD_rules) aNil)))))
def g_behind : Es := (sRet (e1 opTuple (eComp (.n 2) [2] (iE (eV 0)) none x_behind_1)))
def s_behind : Df := run 2 1 g_behind
/- law_ends_free(law_word): slots 0=law_word 1=law_size 2=law_half 3=law_last -/
def b_law_ends_free_1 : Es := (sSq (sSet 3 (eCut (eV 0) (some (e2 opSub (eV 1) (eV 2))) none))
  (sIf (e2 opEq (eV 3) (eCut (eV 0) (some (e2 opSub (eV 1) (e2 opMul (eC (.int 2)) (eV 2)))) (some (e2 opSub (eV 1) (eV 2)))))
  (sRet (eC (.bl false))) sNx))
def g_law_ends_free : Es := (sSq (sSet 1 (e1 opLen (eV 0)))
  (sSq (sFor (.n 2) [2, 3] (iR2 (eC (.int 1)) (e2 opAdd (e2 opDiv (eV 1) (eC (.int 2))) (eC (.int 1)))) b_law_ends_free_1)
  (sRet (eC (.bl true)))))
def s_law_ends_free : Df := run 1 3 g_law_ends_free
/- law_free(law_drawn, law_many, law_size): slots 0=law_drawn 1=law_many 2=law_size 3=law_word 4=law_turn 5=law_number 6=law_some 7=law_k 8=law_letter -/
def x_law_free_1 : Ev := (e2 opIx (eC (.str [97, 98, 99, 100])) (e2 opMod (e2 opAdd (eV 5) (eV 7)) (eV 1)))
def b_law_free_2 : Es := (sSq (sSet 5 (val (eCallD s_law_next 0 aNil)))
  (sSq (sSet 6 (eComp (.n 7) [7] (iR1 (eV 1)) none x_law_free_1))
  (sSq (sSet 6 (eComp (.n 8) [8] (iE (eV 6)) (some (val (eCall s_law_ends_free (aCons (e2 opAdd (eV 3) (eV 8)) aNil)))) (eV 8)))
  (sIf (e2 opNe (eV 6) (eLst aNil))
  (sSet 3 (e2 opAdd (eV 3) (e2 opIx (eV 6) (eC (.int 0))))) sNx))))
def g_law_free : Es := (sSq (sSet 3 (eC (.str [])))
  (sSq (sFor (.n 4) [4, 5, 6] (iR1 (eV 2)) b_law_free_2)
  (sRet (eV 3))))
def s_law_free : Df := run 3 6 g_law_free
/- image(rule, word): slots 0=rule 1=word -/
def g_image : Es := (sRet (val (eCall s_image_within (aCons (eV 0) (aCons (eV 1) (aCons (eC c_MOST_IMAGE) aNil))))))
def s_image : Df := run 2 0 g_image
/- law_longer(law_words): slots 0=law_words 1=law_found 2=law_word 3=law_letter -/
def b_law_longer_1 : Es := (sSet 1 (e2 opAdd (eV 1) (eComp (.n 3) [3] (iE (eC (.str [97, 98, 99, 100]))) (some (val (eCall s_law_ends_free (aCons (e2 opAdd (eV 2) (eV 3)) aNil)))) (e2 opAdd (eV 2) (eV 3)))))
def g_law_longer : Es := (sSq (sSet 1 (eLst aNil))
  (sSq (sFor (.n 2) [2] (iE (eV 0)) b_law_longer_1)
  (sRet (eV 1))))
def s_law_longer : Df := run 1 3 g_law_longer
/- law_looked(): slots 0=law_gone 1=law_fresh 2=law_turn -/
def b_law_looked_1 : Es := (sSq (sSet 1 (val (eCall s_law_longer (aCons (eV 1) aNil))))
  (sSet 0 (e2 opAdd (eV 0) (eV 1))))
def g_law_looked : Es := (sSq (sSet 0 (eLst aNil))
  (sSq (sSet 1 (eLst (aCons (eC (.str [])) aNil)))
  (sSq (sFor (.n 2) [2] (iR1 (eC (.int 3))) b_law_looked_1)
  (sRet (eV 0)))))
def s_law_looked : Df := run 0 3 g_law_looked
/- law_whole(law_found): slots 0=law_found -/
def g_law_whole : Es := (sRet (eAnd (e1 (opIsI 1) (eV 0)) (e1 opNot (e1 (opIsI 2) (eV 0)))))
def s_law_whole : Df := run 1 0 g_law_whole
/- law_all_same(law_found, law_due): slots 0=law_found 1=law_due 2=law_one 3=law_other -/
def b_law_all_same_1 (rA : Df) : Es := (sIf (e1 opNot (val (eCall rA (aCons (eV 2) (aCons (eV 3) aNil)))))
  (sRet (eC (.bl false))) sNx)
def g_law_all_same (rA : Df) : Es := (sSq (sFor (.t [2, 3]) [2, 3] (iZip (eV 0) (eV 1)) (b_law_all_same_1 rA))
  (sRet (eC (.bl true))))
def s_law_all_same (rA : Df) : Df := run 2 2 (g_law_all_same rA)
/- law_same(law_found, law_due): slots 0=law_found 1=law_due -/
def g_law_same (rB : Df) : Es := (sSq (sIf (e2 opIs (eV 1) (eC .non))
  (sRet (e2 opIs (eV 0) (eC .non))) sNx)
  (sSq (sIf (e1 (opIsI 4) (eV 1))
  (sRet (eAnd (e1 (opIsI 4) (eV 0)) (eAnd (e2 opEq (e1 opLen (eV 0)) (e1 opLen (eV 1))) (val (eCall rB (aCons (e1 opList (eV 0)) (aCons (e1 opList (eV 1)) aNil))))))) sNx)
  (sSq (sIf (e1 (opIsI 3) (eV 1))
  (sRet (eAnd (e1 (opIsI 3) (eV 0)) (eAnd (e2 opEq (e1 opLen (eV 0)) (e1 opLen (eV 1))) (val (eCall rB (aCons (eV 0) (aCons (eV 1) aNil))))))) sNx)
  (sSq (sIf (e1 (opIsI 0) (eV 1))
  (sRet (eAnd (e1 (opIsI 0) (eV 0)) (e2 opEq (eV 0) (eV 1)))) sNx)
  (sRet (eAnd (val (eCall s_law_whole (aCons (eV 0) aNil))) (e2 opEq (eV 0) (eV 1))))))))
def s_law_same : Nat → Df
  | 0 => fun _ => .st
  | q + 1 => run 2 0 (g_law_same (s_law_all_same (s_law_same q)))
/- law_put(law_rule, law_word): slots 0=law_rule 1=law_word 2=law_sign -/
def x_law_put_1 : Ev := (e2 opIx (eV 0) (eM opIndex (eC (.str [97, 98, 99, 100])) (eV 2)))
def g_law_put : Es := (sRet (eM opJoin (eC (.str [])) (eComp (.n 2) [2] (iE (eV 1)) none x_law_put_1)))
def s_law_put : Df := run 2 1 g_law_put
/- law_double(law_word): slots 0=law_word 1=law_end 2=law_half 3=law_begin -/
def b_law_double_1 : Es := (sSq (sSet 3 (e2 opSub (eV 1) (e2 opMul (eC (.int 2)) (eV 2))))
  (sIf (e2 opEq (eCut (eV 0) (some (eV 3)) (some (e2 opAdd (eV 3) (eV 2)))) (eCut (eV 0) (some (e2 opAdd (eV 3) (eV 2))) (some (eV 1))))
  (sRet (eTup (aCons (eV 3) (aCons (e2 opMul (eC (.int 2)) (eV 2)) (aCons (eV 2) aNil))))) sNx))
def b_law_double_2 : Es := (sFor (.n 2) [2, 3] (iR2 (eC (.int 1)) (e2 opAdd (e2 opDiv (eV 1) (eC (.int 2))) (eC (.int 1)))) b_law_double_1)
def g_law_double : Es := (sSq (sFor (.n 1) [1, 2, 3] (iR2 (eC (.int 1)) (e2 opAdd (e1 opLen (eV 0)) (eC (.int 1)))) b_law_double_2)
  (sRet (eC .non)))
def s_law_double : Df := run 1 3 g_law_double
/- looked_length(rule): slots 0=rule 1=longest 2=shortest 3=word -/
def g_looked_length : Es := (sSq (sSet 1 (e1 opMaxL (eComp (.n 3) [3] (iE (eV 0)) none (e1 opLen (eV 3)))))
  (sSq (sSet 2 (e1 opMinL (eComp (.n 3) [3] (iE (eV 0)) none (e1 opLen (eV 3)))))
  (sRet (e2 opAdd (eC (.int 3)) (e2 opDiv (e2 opMax2 (eC (.int 0)) (e2 opSub (eV 1) (eC (.int 4)))) (eV 2))))))
def s_looked_length : Df := run 1 3 g_looked_length
/- letters(many): slots 0=many -/
def g_letters : Es := (sRet (eCut (eC c_LETTERS) none (some (eV 0))))
def s_letters : Df := run 1 0 g_letters
/- ends_free(word): slots 0=word 1=size 2=half -/
def b_ends_free_1 : Es := (sIf (e2 opEq (eCut (eV 0) (some (e2 opSub (eV 1) (eV 2))) none) (eCut (eV 0) (some (e2 opSub (eV 1) (e2 opMul (eC (.int 2)) (eV 2)))) (some (e2 opSub (eV 1) (eV 2)))))
  (sRet (eC (.bl false))) sNx)
def g_ends_free : Es := (sSq (sSet 1 (e1 opLen (eV 0)))
  (sSq (sFor (.n 2) [2] (iR2 (eC (.int 1)) (e2 opAdd (e2 opDiv (eV 1) (eC (.int 2))) (eC (.int 1)))) b_ends_free_1)
  (sRet (eC (.bl true)))))
def s_ends_free : Df := run 1 2 g_ends_free
/- made_longer(words, many): slots 0=words 1=many 2=found 3=word 4=letter -/
def b_made_longer_1 : Es := (sIf (val (eCall s_ends_free (aCons (e2 opAdd (eV 3) (eV 4)) aNil)))
  (sAppend 2 (e2 opAdd (eV 3) (eV 4))) sNx)
def b_made_longer_2 : Es := (sFor (.n 4) [4] (iE (val (eCall s_letters (aCons (eV 1) aNil)))) b_made_longer_1)
def g_made_longer : Es := (sSq (sOwn 2 (own (eLst aNil)))
  (sSq (sFor (.n 3) [3, 4] (iE (eV 0)) b_made_longer_2)
  (sRetN 2)))
def s_made_longer : Df := run 2 3 g_made_longer
/- least_breaking(limit, period): slots 0=limit 1=period 2=top 3=bottom 4=above 5=length -/
def g_least_breaking : Es := (sSq (sTg (.t [2, 3, 4]) (eV 0))
  (sSq (sSet 5 (e2 opDiv (e2 opSub (e2 opAdd (e2 opMul (eV 2) (eV 1)) (eV 3)) (eC (.int 1))) (eV 3)))
  (sSq (sIf (eAnd (eV 4) (e2 opEq (e2 opMul (eV 5) (eV 3)) (e2 opMul (eV 2) (eV 1))))
  (sRet (e2 opAdd (eV 5) (eC (.int 1)))) sNx)
  (sRet (eV 5)))))
def s_least_breaking : Df := run 2 4 g_least_breaking
/- repeat_in(word, limit): slots 0=word 1=limit 2=wanted 3=alike 4=end 5=sign 6=period 7=length -/
def x_repeat_in_1 : Ev := (e2 opSub (val (eCall s_least_breaking (aCons (eV 1) (aCons (eV 6) aNil)))) (eV 6))
def b_repeat_in_2 : Es := (sIf (e2 opEq (e2 opIx (eV 0) (e2 opSub (eV 4) (eV 6))) (eV 5))
  (sSq (sAugIx 3 (eV 6) opIAdd (eC (.int 1)))
  (sIf (eThaw (e2 opGe (e2 opIx (eV 3) (eV 6)) (e2 opIx (eV 2) (eV 6))))
  (sSq (sSet 7 (e2 opAdd (e2 opIx (eV 2) (eV 6)) (eV 6)))
  (sRet (eTup (aCons (e2 opSub (e2 opAdd (eV 4) (eC (.int 1))) (eV 7)) (aCons (eV 7) (aCons (eV 6) aNil)))))) sNx)) (sSetIx 3 (eV 6) (eC (.int 0))))
def b_repeat_in_3 : Es := (sFor (.n 6) [6, 7] (iR2 (eC (.int 1)) (e2 opAdd (eV 4) (eC (.int 1)))) b_repeat_in_2)
def g_repeat_in : Es := (sSq (sSet 2 (eComp (.n 6) [6] (iR1 (e1 opLen (eV 0))) none x_repeat_in_1))
  (sSq (sOwn 3 (oComp (.n 5) [5] (iE (eV 0)) none (eC (.int 0))))
  (sSq (sFor (.t [4, 5]) [4, 5, 6, 7] (iEnum2 (eV 0)) b_repeat_in_3)
  (sRet (eC .non)))))
def s_repeat_in : Df := run 2 6 g_repeat_in
/- keeps(rule): slots 0=rule 1=gone 2=fresh 3=size 4=word 5=repeat -/
def b_keeps_1 : Es := (sSq (sSet 5 (val (eCall s_repeat_in (aCons (val (eCall s_image (aCons (eV 0) (aCons (eV 4) aNil)))) (aCons (eC c_DOUBLES) aNil)))))
  (sIf (e2 opIsNot (eV 5) (eC .non))
  (sRet (eTup (aCons (eC (.str [98, 114, 101, 97, 107, 115])) (aCons (eV 4) (aCons (eV 5) aNil))))) sNx))
def b_keeps_2 : Es := (sSq (sSet 2 (val (eCall s_made_longer (aCons (eV 2) (aCons (e1 opLen (eV 0)) aNil)))))
  (sSq (sIf (eThaw (e2 opGt (e2 opAdd (e1 opLen (eV 1)) (e1 opLen (eV 2))) (eC c_MOST_LOOKED)))
  sSt sNx)
  (sSq (sFor (.n 4) [4, 5] (iE (eV 2)) b_keeps_1)
  (sExtend 1 (eV 2)))))
def g_keeps : Es := (sSq (sIf (e2 opGt (e1 opMaxL (eComp (.n 4) [4] (iE (eV 0)) none (e1 opLen (eV 4)))) (eC c_MOST_WORD_keeping))
  sSt sNx)
  (sSq (sOwn 1 (own (eLst aNil)))
  (sSq (sSet 2 (eLst (aCons (eC (.str [])) aNil)))
  (sSq (sFor (.n 3) [3, 4, 5] (iR1 (val (eCall s_looked_length (aCons (eV 0) aNil)))) b_keeps_2)
  (sRet (eFrz 1 (eTup (aCons (eC (.str [107, 101, 101, 112, 115])) (aCons (eV 1) aNil)))))))))
def s_keeps : Df := run 1 5 g_keeps
/- law(law_script): slots 0=law_script 1=law_drawn 2=law_first 3=law_later 4=law_both 5=law_due 6=law_rule 7=law_word 8=law_found -/
def b_law_1 : Es := (sIf (e1 opNot (val (eCall (s_law_same 5) (aCons (val (eCall s_keeps (aCons (eV 6) aNil))) (aCons (eV 5) aNil)))))
  (sRet (eC (.bl false))) sNx)
def g_law : Es := (sSq (sOwn 1 (eCall s_law_draws (aCons (eV 0) aNil)))
  (sSq (sSet 2 (val (eCallD s_law_kept 1 aNil)))
  (sSq (sSet 3 (val (eCallD s_law_kept 1 aNil)))
  (sSq (sSet 4 (val (eCall s_behind (aCons (eV 2) (aCons (eV 3) aNil)))))
  (sSq (sSet 5 (eTup (aCons (eC (.str [107, 101, 101, 112, 115])) (aCons (val (eCall s_law_looked aNil)) aNil))))
  (sSq (sIf (e1 opNot (val (eCall (s_law_same 5) (aCons (eV 4) (aCons (e1 opTuple (eComp (.n 7) [7] (iE (eV 2)) none (val (eCall s_law_put (aCons (eV 3) (aCons (eV 7) aNil)))))) aNil)))))
  (sRet (eC (.bl false))) sNx)
  (sSq (sFor (.n 6) [6] (iE (eLst (aCons (eV 2) (aCons (eV 3) (aCons (eV 4) aNil))))) b_law_1)
  (sSq (sSet 7 (val (eCallD s_law_free 1 (aCons (eC (.int 4)) (aCons (eC (.int 31)) aNil)))))
  (sSq (sSet 8 (val (eCall s_image (aCons (eV 4) (aCons (eV 7) aNil)))))
  (sRet (eAnd (val (eCall (s_law_same 5) (aCons (eV 8) (aCons (val (eCall s_law_put (aCons (eV 3) (aCons (val (eCall s_law_put (aCons (eV 2) (aCons (eV 7) aNil)))) aNil)))) aNil)))) (e2 opIs (val (eCall s_law_double (aCons (eV 8) aNil))) (eC .non)))))))))))))
def s_law : Df := run 1 8 g_law
end NV.K65

set_option Elab.async false
set_option linter.all false
set_option maxRecDepth 100000
namespace NV.K65
open NV
/-- what _law_same may look at -/
inductive Pl : Nat → D → Prop where
  | non (n : Nat) : Pl n .non
  | int (n : Nat) (i : Int) : Pl n (.int i)
  | str (n : Nat) (s : List Nat) (h : s.all (fun c => decide (c < 1114112)) = true) : Pl n (.str s)
  | lst (n : Nat) (xs : List D) (h : ∀ x ∈ xs, Pl n x) : Pl (n + 1) (.lst xs)
  | tup (n : Nat) (xs : List D) (h : ∀ x ∈ xs, Pl n x) : Pl (n + 1) (.tup xs)
theorem whole_ok (i : Int) : s_law_whole [.v (.int i)] = .ok (.v (.bl true)) [.v (.int i)] := by
  rw [s_law_whole, run_ap (by rfl)]
  simp -implicitDefEqProofs [g_law_whole, opIsI, lent]
theorem same_loop (rA : Df) (a b : D) : ∀ xs : List D, (∀ x ∈ xs, rA [.v x, .v x] = .ok (.v (.bl true)) [.v x, .v x]) → forL (.t [2, 3]) [2, 3] (b_law_all_same_1 rA) (List.zipWith (fun x y => D.tup [x, y]) xs xs) [.v a, .v b, .un, .un] = .ok .nx [.v a, .v b, .un, .un]
  | [], _ => rfl
  | x :: r, h => by
    have h1 : b_law_all_same_1 rA [.v a, .v b, .v x, .v x] = .ok .nx [.v a, .v b, .v x, .v x] := by
      simp -implicitDefEqProofs [b_law_all_same_1, h x List.mem_cons_self]
    rw [List.zipWith_cons_cons, forL_nx (ρ1 := [.v a, .v b, .v x, .v x]) rfl h1]
    simp only [wipe_cons, wipe_nil, List.set_cons_succ, List.set_cons_zero]
    exact same_loop rA a b r fun y hy => h y (List.mem_cons_of_mem _ hy)
theorem all_ok (rA : Df) (xs : List D) (h : ∀ x ∈ xs, rA [.v x, .v x] = .ok (.v (.bl true)) [.v x, .v x]) : s_law_all_same rA [.v (.lst xs), .v (.lst xs)] = .ok (.v (.bl true)) [.v (.lst xs), .v (.lst xs)] := by
  rw [s_law_all_same, run_ap (by rfl)]
  have k := same_loop rA (.lst xs) (.lst xs) xs h
  simp only [List.zipWith_self] at k
  simp -implicitDefEqProofs [g_law_all_same, k, lent]
theorem same_ok {n : Nat} {d : D} (h : Pl n d) : s_law_same (n + 1) [.v d, .v d] = .ok (.v (.bl true)) [.v d, .v d] := by
  induction h with
  | non n =>
    rw [s_law_same, run_ap (by rfl)]
    simp -implicitDefEqProofs [g_law_same, opIsN, lent]
  | int n i =>
    rw [s_law_same, run_ap (by rfl)]
    simp -implicitDefEqProofs [g_law_same, opIsN, opIsI, whole_ok, lent]
  | str n s hs =>
    rw [s_law_same, run_ap (by rfl)]
    simp -implicitDefEqProofs [g_law_same, opIsN, opIsI, opEq, D.lv, D.eqv, hs, lent]
  | lst n xs h ih =>
    rw [s_law_same, run_ap (by rfl)]
    simp -implicitDefEqProofs [g_law_same, opIsN, opIsI, all_ok _ xs ih, lent]
  | tup n xs h ih =>
    rw [s_law_same, run_ap (by rfl)]
    simp -implicitDefEqProofs [g_law_same, opIsN, opIsI, opList, all_ok _ xs ih, lent]
theorem same_ints (ns : List Int) : s_law_same 5 [.v (.lst (ns.map D.int)), .v (.lst (ns.map D.int))] = .ok (.v (.bl true)) [.v (.lst (ns.map D.int)), .v (.lst (ns.map D.int))] :=
  same_ok (.lst 3 _ fun x hx => by
    obtain ⟨i, _, rfl⟩ := List.mem_map.mp hx
    exact .int _ _)
theorem ixS {w : List Nat} (hl : w.length ≤ line) {k : Nat} (h : k < w.length) : opIx (.str w) (.int (k : Int)) = some (.str [w.getD k 0]) := by
  rw [opIx, if_pos hl, at_of (by omega), Int.toNat_natCast, List.getElem?_eq_getElem h, List.getD_eq_getElem?_getD, List.getElem?_eq_getElem h]; rfl
theorem getW {m : Nat} {w : List Nat} (hw : IsW m w) {k : Nat} (h : k < w.length) : 97 ≤ w.getD k 0 ∧ w.getD k 0 < 97 + m := by
  rw [List.getD_eq_getElem?_getD, List.getElem?_eq_getElem h]
  exact hw _ (List.getElem_mem h)
theorem opNe_c {a b : Nat} (ha : a < 1114112) (hb : b < 1114112) : opNe (.str [a]) (.str [b]) = some (.bl (!decide (a = b))) := by
  simp [opNe, D.lv, D.eqv, ha, hb]; by_cases h : a = b <;> simp [h]
theorem opEq_c {a b : Nat} (ha : a < 1114112) (hb : b < 1114112) : opEq (.str [a]) (.str [b]) = some (.bl (decide (a = b))) := by
  simp [opEq, D.lv, D.eqv, ha, hb]; by_cases h : a = b <;> simp [h]
theorem opMulN {i j : Nat} (hi : i < 2 ^ 63) (hj : j < 2 ^ 63) : opMul (.int (i : Int)) (.int (j : Int)) = some (.int ((i * j : Nat) : Int)) := by
  rw [opMul_int (by omega) (by omega), Int.natCast_mul]
section
variable {a b c d : D} {r : List D}
@[simp] theorem ixT0 : opIx (.tup (a :: r)) (.int 0) = some a := by rw [opIx, at_of (by decide)]; rfl
@[simp] theorem ixT1 : opIx (.tup (a :: b :: r)) (.int 1) = some b := by rw [opIx, at_of (by decide)]; rfl
@[simp] theorem ixT2 : opIx (.tup (a :: b :: c :: r)) (.int 2) = some c := by rw [opIx, at_of (by decide)]; rfl
@[simp] theorem ixL0 : opIx (.lst (a :: r)) (.int 0) = some a := by rw [opIx, at_of (by decide)]; rfl
@[simp] theorem ixL1 : opIx (.lst (a :: b :: r)) (.int 1) = some b := by rw [opIx, at_of (by decide)]; rfl
@[simp] theorem ixL2 : opIx (.lst (a :: b :: c :: r)) (.int 2) = some c := by rw [opIx, at_of (by decide)]; rfl
@[simp] theorem ixL3 : opIx (.lst (a :: b :: c :: d :: r)) (.int 3) = some d := by rw [opIx, at_of (by decide)]; rfl
end
theorem IsW.take {m : Nat} {w : List Nat} (h : IsW m w) (n : Nat) : IsW m (w.take n) := fun c hc => h c (List.mem_of_mem_take hc)
theorem IsW.drop {m : Nat} {w : List Nat} (h : IsW m w) (n : Nat) : IsW m (w.drop n) := fun c hc => h c (List.mem_of_mem_drop hc)
theorem IsW.rep {m : Nat} {w : List Nat} (h : IsW m w) (n : Nat) : IsW m (List.replicate n w).flatten := fun c hc => by
  obtain ⟨v, hv, hc⟩ := List.mem_flatten.mp hc
  have e := (List.mem_replicate.mp hv).2
  exact h c (e ▸ hc)
theorem IsW.up {m n : Nat} {w : List Nat} (h : IsW m w) (hm : m ≤ n) : IsW n w := fun c hc => by have := h c hc; omega
theorem IsW.one {m c : Nat} (h0 : 97 ≤ c) (h : c < 97 + m) : IsW m [c] := fun d hd => by rw [List.mem_singleton] at hd; omega
theorem abcd_at {i : Int} (h0 : 0 ≤ i) (h : i < 4) : opIx (.str [97, 98, 99, 100]) (.int i) = some (.str [97 + i.toNat]) := by
  have h2 : i = 0 ∨ i = 1 ∨ i = 2 ∨ i = 3 := by omega
  rcases h2 with rfl | rfl | rfl | rfl <;> simp [opIx, line, at?, ixN]
theorem opMul_str {w : List Nat} {n : Nat} (hn : n < 2147483648) (h : w.length * n ≤ line) : opMul (.str w) (.int (n : Int)) = some (.str (List.replicate n w).flatten) := by
  rw [opMul, if_pos ⟨by omega, by omega, by rw [Int.toNat_natCast]; exact h⟩, Int.toNat_natCast]
theorem flat1 {α β : Type} (f : α → β) (xs : List α) : (xs.map fun c => [f c]).flatten = xs.map f := by
  induction xs with
  | nil => rfl
  | cons x r ih => rw [List.map_cons, List.flatten_cons, ih]; rfl
theorem cut_map {α β : Type} (f : α → β) (xs : List α) (lo hi : Option Int) : cut (xs.map f) lo hi = (cut xs lo hi).map f := by
  unfold cut; rw [List.length_map, List.map_take, List.map_drop]
theorem cut_len {α : Type} (xs : List α) (lo hi : Option Int) : (cut xs lo hi).length ≤ xs.length := by
  unfold cut; rw [List.length_take, List.length_drop]; omega
theorem rep_len (w : List Nat) (n : Nat) : (List.replicate n w).flatten.length = n * w.length := by
  rw [List.length_flatten, List.map_replicate, List.sum_replicate_nat]
theorem IsR.wide {m a b : Nat} {ws : List (List Nat)} (h : IsR m a ws) (hb : a ≤ b) : IsR m b ws := ⟨h.len, fun w hw => ⟨(h.ok w hw).1, (h.ok w hw).2.1, Nat.le_trans (h.ok w hw).2.2 hb⟩⟩
/-- a loop that returns at the first x for which q tells what -/
theorem forL_find {g : Tg} {ks : List Nat} {b : Es} (I : Nat → Env → Prop) (q : D → Option Sl) : ∀ (xs : List D) (i : Nat) (ρ : Env), I i ρ → (∀ j x ρ, xs[j]? = some x → I (i + j) ρ → (q x = none → ∃ ρ1 ρ2, g.put x ρ = some ρ1 ∧ (b ρ1 = .ok .nx ρ2 ∨ b ρ1 = .ok .cnt ρ2) ∧ I (i + j + 1) (wipeE ρ2 ks)) ∧ (∀ r, q x = some r → ∃ ρ1 ρ2, g.put x ρ = some ρ1 ∧ b ρ1 = .ok (.ret r) ρ2)) →
    (xs.findSome? q = none → ∃ ρ', forL g ks b xs ρ = .ok .nx ρ' ∧ I (i + xs.length) ρ') ∧ (∀ r, xs.findSome? q = some r → ∃ ρ', forL g ks b xs ρ = .ok (.ret r) ρ')
  | [], i, ρ, h, _ => ⟨fun _ => ⟨ρ, rfl, h⟩, fun r h => by cases h⟩
  | x :: r, i, ρ, h, hs => by
    obtain ⟨h1, h2⟩ := hs 0 x ρ rfl h
    rw [List.findSome?_cons]
    cases e : q x with
    | some s =>
      obtain ⟨ρ1, ρ2, h3, h4⟩ := h2 s e
      exact ⟨fun z => (by cases z), fun r z => (by cases z; exact ⟨ρ2, forL_ret h3 h4⟩)⟩
    | none =>
      obtain ⟨ρ1, ρ2, h3, h4, h5⟩ := h1 e
      have ih := forL_find I q r (i + 1) (wipeE ρ2 ks) h5 fun j y ρ hy hI => by
        have := hs (j + 1) y ρ (by simpa using hy) (by rwa [show i + (j + 1) = i + 1 + j by omega])
        rwa [show i + (j + 1) + 1 = i + 1 + j + 1 by omega] at this
      have el : forL g ks b (x :: r) ρ = forL g ks b r (wipeE ρ2 ks) := by
        rcases h4 with h4 | h4
        · exact forL_nx h3 h4
        · exact forL_cnt h3 h4
      rw [el, List.length_cons, show i + (r.length + 1) = i + 1 + r.length by omega]
      exact ih
theorem rng_nat (a b : Nat) : rng (a : Int) (b : Int) = (List.range (b - a)).map fun i => D.int ((a + i : Nat) : Int) := by
  unfold rng
  rw [show ((b : Int) - (a : Int)).toNat = b - a by omega]
  refine List.map_congr_left fun i _ => ?_
  rw [Int.natCast_add]
/-- limits, and repeats by them -/
def LimD (t b : Nat) (a : Bool) : D := .tup [.int (t : Int), .int (b : Int), .bl a]
def least (t b : Nat) (a : Bool) (p : Nat) : Nat := if a = true ∧ (t * p + b - 1) / b * b = t * p then (t * p + b - 1) / b + 1 else (t * p + b - 1) / b
def brk (t b : Nat) (a : Bool) (l p : Nat) : Bool := if a then decide (t * p < l * b) else decide (t * p ≤ l * b)
theorem least_le {t b : Nat} {a : Bool} (hb : 1 ≤ b) (p l : Nat) : least t b a p ≤ l ↔ brk t b a l p = true := by
  unfold least brk
  generalize t * p = x
  have h1 : x ≤ (x + b - 1) / b * b := by
    have := Nat.div_add_mod (x + b - 1) b
    have h2 := Nat.mod_lt (x + b - 1) (show 0 < b by omega)
    rw [Nat.mul_comm] at this
    omega
  have h3 : (x + b - 1) / b * b < x + b := by
    have := Nat.div_mul_le_self (x + b - 1) b
    omega
  generalize (x + b - 1) / b = q at *
  have k1 : ∀ l, q ≤ l ↔ x ≤ l * b := fun l => by
    constructor
    · intro h
      exact Nat.le_trans h1 (Nat.mul_le_mul_right b h)
    · intro h
      refine Nat.not_lt.mp fun z => ?_
      have := Nat.mul_le_mul_right b (show l + 1 ≤ q from z)
      rw [Nat.add_mul, Nat.one_mul] at this
      omega
  cases a with
  | false => simp [k1 l]
  | true =>
    by_cases h : q * b = x
    · simp only [h, true_and, if_true, decide_eq_true_eq]
      rw [← h]
      constructor
      · intro z; exact Nat.mul_lt_mul_of_pos_right z (by omega)
      · intro z; exact Nat.lt_of_mul_lt_mul_right z
    · simp only [h, and_false, if_false, if_true, decide_eq_true_eq]
      rw [k1 l]
      constructor
      · intro z
        refine Nat.lt_of_le_of_ne z fun e => ?_
        have h4 : q ≤ l := (k1 l).mpr z
        have h5 : l * b ≤ q * b := by omega
        have h6 : l ≤ q := Nat.le_of_mul_le_mul_right h5 (by omega)
        have : l = q := by omega
        rw [this] at e; exact h e.symm
      · intro z; omega
theorem least_gt {t b : Nat} {a : Bool} (hb : 1 ≤ b) (ht : b < t) {p : Nat} (hp : 1 ≤ p) : p < least t b a p := by
  refine Nat.not_le.mp fun z => ?_
  have := (least_le hb p p).mp z
  have h : p * b < t * p := by rw [Nat.mul_comm t p]; exact Nat.mul_lt_mul_of_pos_left ht hp
  unfold brk at this
  cases a <;> simp at this <;> omega
theorem least_lt {t b : Nat} {a : Bool} (hb : 1 ≤ b) (p : Nat) : least t b a p ≤ t * p + 1 := by
  refine (least_le hb p _).mpr ?_
  have : t * p + 1 ≤ (t * p + 1) * b := Nat.le_mul_of_pos_right _ hb
  unfold brk
  cases a <;> simp <;> omega
/-- how many signs that end at place n - 1 are the ones p ahead -/
def al (w : List Nat) (p : Nat) : Nat → Nat
  | 0 => 0
  | n + 1 => if 1 ≤ p ∧ p ≤ n ∧ w.getD (n - p) 0 = w.getD n 0 then al w p n + 1 else 0
theorem al_le (w : List Nat) (p : Nat) : ∀ n, al w p n ≤ n - p
  | 0 => Nat.zero_le _
  | n + 1 => by
    have := al_le w p n
    rw [al]
    by_cases h : 1 ≤ p ∧ p ≤ n ∧ w.getD (n - p) 0 = w.getD n 0
    · rw [if_pos h]; omega
    · rw [if_neg h]; omega
theorem al_ge (w : List Nat) {p : Nat} (hp : 1 ≤ p) : ∀ n m, m ≤ al w p n ↔ ∀ i, i < m → i + p + 1 ≤ n ∧ w.getD (n - 1 - i - p) 0 = w.getD (n - 1 - i) 0
  | 0, m => by
    rw [al]
    constructor
    · intro h i hi; omega
    · intro h
      refine Nat.not_lt.mp fun z => ?_
      have := (h 0 z).1; omega
  | n + 1, 0 => by
    constructor
    · intro h i hi; omega
    · intro h; omega
  | n + 1, m + 1 => by
    have ih := al_ge w hp n m
    rw [al]
    by_cases h : 1 ≤ p ∧ p ≤ n ∧ w.getD (n - p) 0 = w.getD n 0
    · rw [if_pos h, Nat.add_le_add_iff_right, ih]
      constructor
      · intro k i hi
        match i with
        | 0 => exact ⟨by omega, by simpa using h.2.2⟩
        | i + 1 =>
          obtain ⟨k1, k2⟩ := k i (by omega)
          refine ⟨by omega, ?_⟩
          rw [show n + 1 - 1 - (i + 1) = n - 1 - i by omega]; exact k2
      · intro k i hi
        obtain ⟨k1, k2⟩ := k (i + 1) (by omega)
        rw [show n + 1 - 1 - (i + 1) = n - 1 - i by omega] at k2
        exact ⟨by omega, k2⟩
    · rw [if_neg h]
      constructor
      · intro k; omega
      · intro k
        obtain ⟨k1, k2⟩ := k 0 (by omega)
        exact absurd ⟨hp, by omega, by simpa using k2⟩ h
/-- the places and periods as they are gone through -/
def hit (t b : Nat) (a : Bool) (w : List Nat) (e p : Nat) : Bool := decide (least t b a p ≤ p + al w p (e + 1))
def tellR (t b : Nat) (a : Bool) (e p : Nat) : D := .tup [.int ((e + 1 - least t b a p : Nat) : Int), .int (least t b a p : Int), .int (p : Int)]
def repE (t b : Nat) (a : Bool) (w : List Nat) (e : Nat) : Option (Nat × Nat) := (List.range e).findSome? fun j => if hit t b a w e (j + 1) then some (e, j + 1) else none
def rep (t b : Nat) (a : Bool) (w : List Nat) : Option (Nat × Nat) := (List.range w.length).findSome? (repE t b a w)
def repD (t b : Nat) (a : Bool) (r : Option (Nat × Nat)) : D := match r with
  | none => .non
  | some (e, p) => tellR t b a e p
/-- the longest word that is asked here -/
def wide : Nat := 20000
theorem least_ok {t b : Nat} {a : Bool} (hb : 1 ≤ b) (ht : b < t) (ht2 : t ≤ 100) {p : Nat} (hp : p ≤ 100000) : s_least_breaking [.v (LimD t b a), .v (.int (p : Int))] = .ok (.v (.int (least t b a p : Int))) [.v (LimD t b a), .v (.int (p : Int))] := by
  have hx : t * p ≤ 100 * 100000 := Nat.mul_le_mul ht2 hp
  have m1 := opMulN (i := t) (j := p) (by omega) (by omega)
  have i1 : ((t * p : Nat) : Int) + (b : Int) - 1 = ((t * p + b - 1 : Nat) : Int) := by omega
  have d1 : opDiv (.int ((t * p + b - 1 : Nat) : Int)) (.int (b : Int)) = some (.int (((t * p + b - 1) / b : Nat) : Int)) := by
    rw [opDiv_int (by omega) (by omega), Int.natCast_ediv]
  have hq : (t * p + b - 1) / b ≤ t * p + b - 1 := Nat.div_le_self _ _
  have m2 := opMulN (i := (t * p + b - 1) / b) (j := b) (by omega) (by omega)
  rw [s_least_breaking, run_ap (by rfl)]
  unfold least
  generalize (t * p + b - 1) / b = q at *
  generalize t * p + b - 1 = y at *
  generalize t * p = x at *
  generalize hz : q * b = z at *
  cases a with
  | false => simp -implicitDefEqProofs [g_least_breaking, LimD, m1, i1, d1, lent]
  | true =>
    by_cases h : z = x
    · simp -implicitDefEqProofs [g_least_breaking, LimD, m1, i1, d1, m2, h, lent]
    · have h2 : ¬ (z : Int) = (x : Int) := by omega
      simp -implicitDefEqProofs [g_least_breaking, LimD, m1, i1, d1, m2, h, h2, lent]
def wants (t b : Nat) (a : Bool) (n : Nat) : List D := (List.range n).map fun p => D.int ((least t b a p : Int) - (p : Int))
def alikes (w : List Nat) (e j : Nat) : List D := (List.range w.length).map fun p => D.int ((if p ≤ j then al w p (e + 1) else al w p e : Nat) : Int)
theorem alikes_ix {w : List Nat} {e j p : Nat} (hp : p < w.length) : (alikes w e j)[p]? = some (D.int ((if p ≤ j then al w p (e + 1) else al w p e : Nat) : Int)) := by
  rw [alikes, List.getElem?_map, List.getElem?_range hp]; rfl
theorem alikes_set {w : List Nat} {e j : Nat} (x : Nat) (hx : x = al w (j + 1) (e + 1)) : (alikes w e j).set (j + 1) (.int (x : Int)) = alikes w e (j + 1) := by
  refine List.ext_getElem? fun p => ?_
  by_cases hp : p < w.length
  · rw [alikes_ix hp]
    by_cases h : j + 1 = p
    · subst h
      rw [List.getElem?_set_self (by rw [alikes, List.length_map, List.length_range]; exact hp), if_pos (Nat.le_refl _), hx]
    · rw [List.getElem?_set_ne h, alikes_ix hp]
      by_cases h2 : p ≤ j
      · rw [if_pos h2, if_pos (by omega)]
      · rw [if_neg h2, if_neg (by omega)]
  · rw [List.getElem?_eq_none (by rw [List.length_set, alikes, List.length_map, List.length_range]; omega), List.getElem?_eq_none (by rw [alikes, List.length_map, List.length_range]; omega)]
theorem alikes_end {w : List Nat} {e : Nat} : alikes w e e = alikes w (e + 1) 0 := by
  unfold alikes
  refine List.map_congr_left fun p _ => ?_
  congr 2
  by_cases h : p ≤ e
  · rw [if_pos h]
    by_cases h2 : p ≤ 0
    · have : p = 0 := by omega
      subst this
      rw [if_pos (Nat.le_refl 0), al, al, if_neg (by omega), if_neg (by omega)]
    · rw [if_neg h2]
  · have h3 := al_le w p e
    have h4 := al_le w p (e + 1)
    rw [if_neg h, if_neg (by omega)]
    omega
theorem enum_get : ∀ (xs : List D) (n j : Nat), (enumL n xs)[j]? = (xs[j]?).map fun x => .tup [.int ((n + j : Nat) : Int), x]
  | [], n, j => by simp [enumL]
  | x :: r, n, 0 => by simp [enumL]
  | x :: r, n, j + 1 => by
    rw [enumL, List.getElem?_cons_succ, enum_get r (n + 1) j, List.getElem?_cons_succ, show n + 1 + j = n + (j + 1) by omega]
theorem enum_len : ∀ (xs : List D) (n : Nat), (enumL n xs).length = xs.length
  | [], _ => rfl
  | x :: r, n => by rw [enumL, List.length_cons, List.length_cons, enum_len r (n + 1)]
theorem al_hit {w : List Nat} {e p : Nat} (hp : 1 ≤ p) (hpe : p ≤ e) (h : w.getD (e - p) 0 = w.getD e 0) : al w p (e + 1) = al w p e + 1 := by rw [al, if_pos ⟨hp, hpe, h⟩]
theorem al_mis {w : List Nat} {e p : Nat} (h : ¬ w.getD (e - p) 0 = w.getD e 0) : al w p (e + 1) = 0 := by rw [al, if_neg fun z => h z.2.2]
theorem findS_range {α : Type} (n : Nat) (q : Nat → Option α) (f : D → Option α) (a : Nat) (h : ∀ j, j < n → f (.int ((a + j : Nat) : Int)) = q j) : (rng (a : Int) ((a + n : Nat) : Int)).findSome? f = (List.range n).findSome? q := by
  rw [rng_nat, show a + n - a = n by omega, List.findSome?_map]
  suffices ∀ xs : List Nat, (∀ j ∈ xs, j < n) → xs.findSome? (f ∘ fun i => D.int ((a + i : Nat) : Int)) = xs.findSome? q from this _ fun j hj => List.mem_range.mp hj
  intro xs
  induction xs with
  | nil => intro _; rfl
  | cons x r ih =>
    intro hx
    rw [List.findSome?_cons, List.findSome?_cons, Function.comp_apply, h x (hx x List.mem_cons_self), ih fun j hj => hx j (List.mem_cons_of_mem _ hj)]
theorem repE_map {t b : Nat} {a : Bool} {w : List Nat} {e : Nat} : (List.range e).findSome? (fun j => if hit t b a w e (j + 1) then some (Sl.v (tellR t b a e (j + 1))) else none) = (repE t b a w e).map fun p => .v (tellR t b a p.1 p.2) := by
  unfold repE
  generalize List.range e = xs
  induction xs with
  | nil => rfl
  | cons x r ih =>
    rw [List.findSome?_cons, List.findSome?_cons]
    by_cases h : hit t b a w e (x + 1) = true
    · rw [if_pos h, if_pos h]; rfl
    · rw [if_neg h, if_neg h]; exact ih
theorem repeat_inner {t b : Nat} {a : Bool} {w : List Nat} (hb : 1 ≤ b) (ht : b < t) (ht2 : t ≤ 100) (hw : IsW 4 w) (hl : w.length ≤ wide) {e : Nat} (he : e < w.length) :
    (repE t b a w e = none → Nx [4, 5, 6, 7] (b_repeat_in_3 [.v (.str w), .v (LimD t b a), .v (.lst (wants t b a w.length)), .o (.lst (alikes w e 0)), .v (.int (e : Int)), .v (.str [w.getD e 0]), .un, .un]) (· = [.v (.str w), .v (LimD t b a), .v (.lst (wants t b a w.length)), .o (.lst (alikes w (e + 1) 0)), .un, .un, .un, .un])) ∧
    (∀ p, repE t b a w e = some p → Rt (b_repeat_in_3 [.v (.str w), .v (LimD t b a), .v (.lst (wants t b a w.length)), .o (.lst (alikes w e 0)), .v (.int (e : Int)), .v (.str [w.getD e 0]), .un, .un]) (.v (tellR t b a p.1 p.2))) := by
  have ll : w.length ≤ line := Nat.le_trans hl (by decide)
  have key := forL_some (g := .n 6) (ks := [6, 7]) (b := b_repeat_in_2) (fun i => [.v (.str w), .v (LimD t b a), .v (.lst (wants t b a w.length)), .o (.lst (alikes w e i)), .v (.int (e : Int)), .v (.str [w.getD e 0]), .un, .un])
    (fun d => match d with | .int p => if hit t b a w e p.toNat then some (.v (tellR t b a e p.toNat)) else none | _ => none) (rng ((1 : Nat) : Int) ((1 + e : Nat) : Int)) (fun j x hx => by
      obtain ⟨rfl, hj⟩ := rng_get hx
      obtain ⟨p, hp⟩ : ∃ p, p = j + 1 := ⟨_, rfl⟩
      rw [show ((1 : Nat) : Int) + (j : Int) = (p : Int) by omega]
      dsimp only
      rw [Int.toNat_natCast]
      have a1 := ixS ll (k := e - p) (by omega)
      rw [Int.natCast_sub (by omega)] at a1
      have b1 := getW hw (k := e - p) (by omega)
      have b2 := getW hw (k := e) (by omega)
      have a3 := opEq_c (a := w.getD (e - p) 0) (b := w.getD e 0) (by omega) (by omega)
      have al1 := al_le w p e
      have i1 : opIx (.lst (alikes w e j)) (.int (p : Int)) = some (.int (al w p e : Int)) := by
        rw [opIx_lst (by omega), Int.toNat_natCast, alikes_ix (by omega), if_neg (by omega)]
      have s1 := alikes_set (w := w) (e := e) (j := j) _ rfl
      rw [← hp] at s1
      have i2 : opIx (.lst (alikes w e p)) (.int (p : Int)) = some (.int (al w p (e + 1) : Int)) := by
        rw [opIx_lst (by omega), Int.toNat_natCast, alikes_ix (by omega), if_pos (by omega)]
      have i3 : opIx (.lst (wants t b a w.length)) (.int (p : Int)) = some (.int ((least t b a p : Int) - (p : Int))) := by
        rw [opIx_lst (by omega), Int.toNat_natCast, wants, List.getElem?_map, List.getElem?_range (by omega)]; rfl
      have n1 : ixN (alikes w e j).length (p : Int) = some p := by
        rw [alikes, List.length_map, List.length_range, ixN, if_pos (by omega), if_pos (by omega), Int.toNat_natCast]
      have lg := least_gt (a := a) hb ht (show 1 ≤ p by omega)
      rw [← hp]
      unfold hit
      by_cases h : w.getD (e - p) 0 = w.getD e 0
      · have a5 := al_hit (show 1 ≤ p by omega) (show p ≤ e by omega) h
        rw [decide_eq_true h] at a3
        rw [a5] at i2 s1 ⊢
        generalize w.getD (e - p) 0 = c at *
        generalize w.getD e 0 = d at *
        generalize al w p e = u at *
        unfold tellR
        generalize least t b a p = l at *
        rw [Int.natCast_add, Int.natCast_one] at i2 s1
        by_cases h2 : l ≤ p + (u + 1)
        · rw [decide_eq_true h2]
          have h3 : (l : Int) - (p : Int) ≤ (u : Int) + 1 := by omega
          have e9 : (((e : Int) + 1) - (l : Int)) = ((e + 1 - l : Nat) : Int) := by omega
          refine ⟨fun z => by simp at z, fun r hr => ?_⟩
          simp only [if_true, Option.some.injEq] at hr
          subst hr
          simp -implicitDefEqProofs [b_repeat_in_2, a1, a3, i1, i2, i3, h3, e9, n1, s1, sAugIx, held, chg, hSetL, Sl.frz, D.flat, line]
        · rw [decide_eq_false h2]
          have h3 : ¬ (l : Int) - (p : Int) ≤ (u : Int) + 1 := by omega
          refine ⟨fun _ => ?_, fun r hr => (by simp at hr)⟩
          simp -implicitDefEqProofs [b_repeat_in_2, a1, a3, i1, i2, i3, h3, n1, s1, sAugIx, held, chg, hSetL, Sl.frz, D.flat, line]
      · have a5 := al_mis h
        rw [decide_eq_false h] at a3
        rw [a5] at i2 s1 ⊢
        generalize w.getD (e - p) 0 = c at *
        generalize w.getD e 0 = d at *
        generalize al w p e = u at *
        generalize least t b a p = l at *
        rw [decide_eq_false (by omega)]
        refine ⟨fun _ => ?_, fun r hr => (by simp at hr)⟩
        rw [show ((0 : Nat) : Int) = 0 from rfl] at s1
        simp -implicitDefEqProofs [b_repeat_in_2, a1, a3, i1, i2, i3, n1, s1, sSetIx, held, chg, hSetL])
  rw [findS_range (q := fun j => if hit t b a w e (j + 1) then some (.v (tellR t b a e (j + 1))) else none) (h := fun j _ => by simp only [Int.toNat_natCast, Nat.add_comm 1 j])] at key
  rw [repE_map, rng_len, show (((1 + e : Nat) : Int) - ((1 : Nat) : Int)).toNat = e by omega] at key
  obtain ⟨k1, k2⟩ := key
  have r1 := inR_of (show (-1000000000 : Int) ≤ 1 by omega) (by omega)
  have r2 := inR_of (show (-1000000000 : Int) ≤ (e : Int) + 1 by omega) (by unfold wide at hl; omega)
  rw [Int.natCast_add, Int.natCast_one, Int.add_comm] at k1 k2
  generalize w.getD e 0 = d at *
  constructor
  · intro z
    rw [z] at k1
    simp -implicitDefEqProofs [b_repeat_in_3, r1, r2, k1 rfl, alikes_end]
  · intro p z
    rw [z] at k2
    have k3 := k2 _ rfl
    obtain ⟨ρ', k3⟩ := k3
    simp -implicitDefEqProofs [b_repeat_in_3, r1, r2, k3]
theorem findS_map {α β γ : Type} (f : β → γ) (q : α → Option β) : ∀ xs : List α, xs.findSome? (fun x => (q x).map f) = (xs.findSome? q).map f
  | [] => rfl
  | x :: r => by
    rw [List.findSome?_cons, List.findSome?_cons]
    cases q x with
    | none => exact findS_map f q r
    | some y => rfl
theorem findS_congr {α β : Type} {q q' : α → Option β} : ∀ {xs : List α}, (∀ x ∈ xs, q x = q' x) → xs.findSome? q = xs.findSome? q'
  | [], _ => rfl
  | x :: r, h => by rw [List.findSome?_cons, List.findSome?_cons, h x List.mem_cons_self, findS_congr fun y hy => h y (List.mem_cons_of_mem _ hy)]
theorem enum_str (w : List Nat) : enumL 0 (w.map fun c => D.str [c]) = (List.range w.length).map fun e => .tup [.int (e : Int), .str [w.getD e 0]] := by
  refine List.ext_getElem? fun j => ?_
  rw [enum_get, List.getElem?_map, List.getElem?_map]
  by_cases h : j < w.length
  · rw [List.getElem?_eq_getElem h, List.getElem?_range h, Nat.zero_add]; simp [h]
  · rw [List.getElem?_eq_none (by omega), List.getElem?_eq_none (by rw [List.length_range]; omega)]; rfl
theorem repeat_ok {t b : Nat} {a : Bool} {w : List Nat} (hb : 1 ≤ b) (ht : b < t) (ht2 : t ≤ 100) (hw : IsW 4 w) (hl : w.length ≤ wide) :
    s_repeat_in [.v (.str w), .v (LimD t b a)] = .ok (.v (repD t b a (rep t b a w))) [.v (.str w), .v (LimD t b a)] := by
  have ll : w.length ≤ line := Nat.le_trans hl (by decide)
  have e1 : opLen (.str w) = some (.int w.length) := opLen_str ll
  have r1 := inR_of (show (-1000000000 : Int) ≤ (w.length : Int) by omega) (by unfold wide at hl; omega)
  have c1 := eComp_go (g := .n 6) (ws := [6]) (it := iR1 (NV.e1 opLen (eV 0))) (f := x_repeat_in_1) (ρ := [.v (.str w), .v (LimD t b a), .un, .un, .un, .un, .un, .un]) (fun d => match d with | .int p => .int ((least t b a p.toNat : Int) - p) | d => d) (rng 0 (w.length : Int)) (by simp [e1, r1]) (fun x hx => by
    obtain ⟨i, hy, h0, h1⟩ := rng_mem hx
    subst hy
    obtain ⟨p, rfl⟩ : ∃ p : Nat, i = (p : Int) := ⟨i.toNat, by omega⟩
    have l := least_ok (a := a) hb ht ht2 (p := p) (by unfold wide at hl; omega)
    simp -implicitDefEqProofs [x_repeat_in_1, l]) (by rw [rng_len]; omega)
  have w1 : (rng 0 (w.length : Int)).map (fun d => match d with | .int p => D.int ((least t b a p.toNat : Int) - p) | d => d) = wants t b a w.length := by
    rw [show (0 : Int) = ((0 : Nat) : Int) from rfl, rng_nat, List.map_map, wants, Nat.sub_zero]
    refine List.map_congr_left fun p _ => ?_
    simp
  rw [w1] at c1
  have c2 := eComp_go (g := .n 5) (ws := [5]) (it := iE (eV 0)) (f := eC (.int 0)) (ρ := [.v (.str w), .v (LimD t b a), .v (.lst (wants t b a w.length)), .un, .un, .un, .un, .un]) (fun _ => .int 0) (w.map fun c => D.str [c]) (by simp) (fun x hx => by simp) (by rw [List.length_map]; omega)
  have w2 : (w.map fun c => D.str [c]).map (fun _ => D.int 0) = alikes w 0 0 := by
    unfold alikes
    refine List.ext_getElem? fun j => ?_
    rw [List.map_map, List.getElem?_map, List.getElem?_map]
    by_cases h : j < w.length
    · rw [List.getElem?_eq_getElem h, List.getElem?_range h]
      have : (if j ≤ 0 then al w j 1 else al w j 0) = 0 := by
        by_cases h2 : j ≤ 0
        · rw [if_pos h2, al, if_neg (by omega)]
        · rw [if_neg h2, al]
      rw [Option.map_some, Option.map_some, this]; rfl
    · rw [List.getElem?_eq_none (by omega), List.getElem?_eq_none (by rw [List.length_range]; omega)]; rfl
  rw [w2] at c2
  have key := forL_some (g := .t [4, 5]) (ks := [4, 5, 6, 7]) (b := b_repeat_in_3) (fun i => [.v (.str w), .v (LimD t b a), .v (.lst (wants t b a w.length)), .o (.lst (alikes w i 0)), .un, .un, .un, .un])
    (fun d => match d with | .tup [.int e, _] => (repE t b a w e.toNat).map (fun p => .v (tellR t b a p.1 p.2)) | _ => none) (enumL 0 (w.map fun c => .str [c])) (fun j x hx => by
      rw [enum_str, List.getElem?_map] at hx
      by_cases h : j < w.length
      · rw [List.getElem?_range h] at hx
        obtain rfl := Option.some.inj hx
        obtain ⟨k1, k2⟩ := repeat_inner (a := a) hb ht ht2 hw hl h
        dsimp only
        rw [Int.toNat_natCast]
        refine ⟨fun z => ?_, fun r z => ?_⟩
        · have := k1 (Option.map_eq_none_iff.mp z)
          simpa using this
        · have ⟨y, hq, hz⟩ := Option.map_eq_some_iff.mp z
          subst hz
          simpa using k2 y hq
      · rw [List.getElem?_eq_none (by rw [List.length_range]; omega)] at hx; cases hx)
  have e2 : (enumL 0 (w.map fun c => .str [c])).findSome? (fun d => match d with | .tup [.int e, _] => (repE t b a w e.toNat).map (fun p => .v (tellR t b a p.1 p.2)) | _ => none) = (rep t b a w).map fun p => Sl.v (tellR t b a p.1 p.2) := by
    rw [enum_str, List.findSome?_map, rep, ← findS_map]
    exact findS_congr fun e _ => by simp
  rw [e2, enum_len, List.length_map] at key
  obtain ⟨k1, k2⟩ := key
  rw [s_repeat_in, run_ap (by rfl)]
  cases hr : rep t b a w with
  | none =>
    rw [hr] at k1
    simp -implicitDefEqProofs [g_repeat_in, c1, c2, k1 rfl, lent, repD]
  | some p =>
    rw [hr] at k2
    have k3 := k2 _ rfl
    obtain ⟨ρ', k3⟩ := k3
    simp -implicitDefEqProofs [g_repeat_in, c1, c2, k3, lent, repD]
theorem eqv_refl : ∀ (n : Nat) (d : D), D.lv n d = true → D.eqv d d = true
  | _, .non, _ => by simp [D.eqv]
  | _, .bl b, _ => by simp [D.eqv]
  | _, .int i, _ => by simp [D.eqv]
  | _, .str s, _ => by simp [D.eqv]
  | 0, .tup xs, h => by rw [D.lv] at h; cases h
  | 0, .lst xs, h => by rw [D.lv] at h; cases h
  | n + 1, .tup xs, h => by
    rw [D.lv] at h
    rw [D.eqv]
    induction xs with
    | nil => rw [D.eqvs]
    | cons x r ih =>
      rw [D.lvs, Bool.and_eq_true] at h
      rw [D.eqvs, eqv_refl n x h.1, ih h.2]; rfl
  | n + 1, .lst xs, h => by
    rw [D.lv] at h
    rw [D.eqv]
    induction xs with
    | nil => rw [D.eqvs]
    | cons x r ih =>
      rw [D.lvs, Bool.and_eq_true] at h
      rw [D.eqvs, eqv_refl n x h.1, ih h.2]; rfl
  | _, .dct _, h => by unfold D.lv at h; cases h
  | _, .obj _ _, h => by unfold D.lv at h; cases h
  | _, .exc _ _, h => by unfold D.lv at h; cases h
  | _, .scr _, h => by unfold D.lv at h; cases h
theorem opEq_self {d : D} (h : D.lv 12 d = true) : opEq d d = some (.bl true) := by rw [opEq, h, eqv_refl 12 d h]; rfl
theorem opNe_self {d : D} (h : D.lv 12 d = true) : opNe d d = some (.bl false) := by rw [opNe, h, eqv_refl 12 d h]; rfl
theorem lv_lst {n : Nat} {xs : List D} (h : ∀ x ∈ xs, D.lv n x = true) : D.lv (n + 1) (.lst xs) = true := by
  rw [D.lv, D.lvs_all, List.all_eq_true]; exact h
theorem lv_tup {n : Nat} {xs : List D} (h : ∀ x ∈ xs, D.lv n x = true) : D.lv (n + 1) (.tup xs) = true := by
  rw [D.lv, D.lvs_all, List.all_eq_true]; exact h
theorem lv_int {n : Nat} {i : Int} : D.lv n (.int i) = true := by unfold D.lv; rfl
theorem lv_str {n m : Nat} {w : List Nat} (h : IsW m w) (hm : m ≤ 4) : D.lv n (.str w) = true := by unfold D.lv; exact h.ok hm
theorem opMul_b {i j : Int} (hi : i.natAbs < 2 ^ 250) (hj : j.natAbs < 2 ^ 250) : opMul (.int i) (.int j) = some (.int (i * j)) := by
  have h : ∀ n : Nat, n < 2 ^ 250 → n < big := fun n h => Nat.lt_of_lt_of_le h (by unfold big; exact Nat.pow_le_pow_right (by decide) (by decide))
  rw [opMul, mulOk, decide_eq_true (h _ hi), decide_eq_true (h _ hj)]; rfl
/-! draws by the cells' digits -/
def drD (ds : List Int) : D := .lst (ds.map D.int)
def Ok31 (ds : List Int) : Prop := ∀ x ∈ ds, 0 ≤ x ∧ x < 2147483629
def nxv (ds : List Int) : Int := ds.getLast?.getD 0
theorem nxv_bd {ds : List Int} (h : Ok31 ds) : 0 ≤ nxv ds ∧ nxv ds < 2147483629 := by
  unfold nxv
  cases e : ds.getLast? with
  | none => exact ⟨by decide, by decide⟩
  | some x => exact h x (List.mem_of_getLast? e)
theorem Ok31.init {ds : List Int} (h : Ok31 ds) : Ok31 ds.dropLast := fun x hx => h x (List.dropLast_subset _ hx)
theorem eq_nil_ints (ds : List Int) : opEq (.lst (ds.map D.int)) (.lst []) = some (.bl (ds.isEmpty)) := by
  have h : D.lv 12 (.lst (ds.map D.int)) = true := lv_lst fun x hx => by
    obtain ⟨_, _, rfl⟩ := List.mem_map.mp hx
    exact lv_int
  rw [opEq, h, show D.lv 12 (.lst []) = true from lv_lst fun x hx => by cases hx]
  cases ds with
  | nil => simp [D.eqv, D.eqvs]
  | cons a r => simp [D.eqv, D.eqvs]
theorem next_ok (ds : List Int) (k : Nat) : s_law_next [.io k (drD ds)] = .ok (.v (.int (nxv ds))) [.io k (drD ds.dropLast)] := by
  rw [s_law_next, run_ap (by rfl)]
  have e := eq_nil_ints ds
  unfold drD nxv
  cases h : ds.getLast? with
  | none =>
    rw [List.getLast?_eq_none_iff] at h
    subst h
    rw [List.isEmpty_nil] at e
    rw [List.map_nil] at e
    simp -implicitDefEqProofs [g_law_next, Sl.frz, D.flat, e, lent]
  | some x =>
    have hne : ds ≠ [] := fun z => by rw [z] at h; cases h
    have e2 : ds.isEmpty = false := by cases ds with | nil => exact absurd rfl hne | cons a r => rfl
    rw [e2] at e
    have g1 : (ds.map D.int).getLast? = some (.int x) := by rw [List.getLast?_map, h]; rfl
    have g2 : (ds.map D.int).dropLast = ds.dropLast.map D.int := by rw [List.map_dropLast]
    rw [← g2]
    generalize (ds.map D.int) = ys at *
    simp -implicitDefEqProofs [g_law_next, Sl.frz, D.flat, e, ePop, g1, lent]
theorem draws_ok (ns : List Int) (hl : ns.length ≤ 63) : ∃ ds, Ok31 ds ∧ s_law_draws [.v (.scr (ns.map D.int))] = .ok (.o (drD ds)) [.v (.scr (ns.map D.int))] := by
  obtain ⟨q, hq, hq1, hq2⟩ : ∃ q : Nat, opMax2 (.int 1) (.int (ns.length : Int)) = some (.int (q : Int)) ∧ 1 ≤ q ∧ q ≤ 63 := by
    rw [opMax2]
    by_cases h : (ns.length : Int) > 1
    · rw [if_pos h]; exact ⟨ns.length, rfl, by omega, by omega⟩
    · rw [if_neg h]; exact ⟨1, rfl, by omega, by omega⟩
  have mn : opMin2 (.int (ns.length : Int)) (.int 63) = some (.int (ns.length : Int)) := by
    rw [opMin2, if_neg (by omega)]
  have ct : cut (ns.map D.int) none (some 63) = ns.map D.int := by
    rw [show (63 : Int) = ((63 : Nat) : Int) from rfl, cut_take, List.take_of_length_le (by rw [List.length_map]; omega)]
  obtain ⟨cs, hcs, hcl⟩ : ∃ cs : List Int, cut (ns.map D.int ++ [D.int 0]) none (some (q : Int)) = cs.map D.int ∧ cs.length = min q (ns.length + 1) := by
    refine ⟨(ns ++ [0]).take q, ?_, by rw [List.length_take, List.length_append]; rfl⟩
    rw [cut_take, List.map_take, List.map_append]; rfl
  have hc1 : 1 ≤ cs.length := by omega
  obtain ⟨c0, cr, hc0⟩ : ∃ c0 cr, cs = c0 :: cr := by
    match cs, hc1 with
    | c0 :: cr, _ => exact ⟨c0, cr, rfl⟩
  subst hc0
  have ix0 : opIx (.lst ((c0 :: cr).map D.int)) (.int 0) = some (.int c0) := ixL0
  have dv : opDiv (.int c0) (.int 2) = some (.int (c0 / 2)) := opDiv_int (by decide) (by decide)
  have n0 : ixN ((c0 :: cr).map D.int).length 0 = some 0 := by rw [ixN, if_pos (by decide), if_pos (by simp)]; rfl
  have st0 : ((c0 :: cr).map D.int).set 0 (.int (c0 / 2)) = ((c0 / 2) :: cr).map D.int := rfl
  obtain ⟨cells, hce⟩ : ∃ cells, cells = (c0 / 2) :: cr := ⟨_, rfl⟩
  have hcel : 1 ≤ cells.length := by rw [hce]; simp
  have hcel2 : cells.length ≤ 63 := by rw [hce]; simp at hcl ⊢; omega
  rw [← hce] at st0
  obtain ⟨bd, hbd⟩ : ∃ bd : Bool, bd = decide (c0 % 2 = 1) := ⟨_, rfl⟩
  obtain ⟨I, hI0⟩ : ∃ I : Nat → Env → Prop, ∀ i ρ, I i ρ ↔ ∃ left found : List Int, left.length = cells.length ∧ found.length = i ∧ Ok31 found ∧ ρ = [.v (.scr (ns.map D.int)), .v (.lst (cells.map D.int)), .v (.bl bd), .o (.lst (left.map D.int)), .o (.lst (found.map D.int)), .un, .un, .un] := ⟨_, fun _ _ => Iff.rfl⟩
  have ⟨k1, _⟩ := forL_go (g := .n 5) (ks := [5, 6, 7]) (b := b_law_draws_1) I (fun _ _ => none) (rng 0 600) 0 [.v (.scr (ns.map D.int)), .v (.lst (cells.map D.int)), .v (.bl bd), .o (.lst (cells.map D.int)), .o (.lst []), .un, .un, .un] ((hI0 _ _).mpr ⟨cells, [], rfl, rfl, (fun x hx => by cases hx), rfl⟩) (fun j x ρ hx hI => ⟨fun _ => by
    obtain ⟨left, found, h1, h2, h3, rfl⟩ := (hI0 _ _).mp hI
    obtain ⟨hx1, hj⟩ := rng_get0 hx
    subst hx1
    rw [Nat.zero_add] at h2 ⊢
    obtain ⟨p, hp, hp2⟩ : ∃ p : Nat, (j : Int) % (cells.length : Int) = (p : Int) ∧ p < cells.length := ⟨j % cells.length, by omega, Nat.mod_lt _ (by omega)⟩
    have md : opMod (.int (j : Int)) (.int (cells.length : Int)) = some (.int (p : Int)) := by rw [opMod_int (by omega), hp]
    have il : opIx (.lst (left.map D.int)) (.int (p : Int)) = some (.int (left.getD p 0)) := by
      rw [opIx_lst (by omega), Int.toNat_natCast, List.getElem?_map, List.getElem?_eq_getElem (by omega), List.getD_eq_getElem?_getD, List.getElem?_eq_getElem (by omega)]; rfl
    have ic : opIx (.lst (cells.map D.int)) (.int (p : Int)) = some (.int (cells.getD p 0)) := by
      rw [opIx_lst (by omega), Int.toNat_natCast, List.getElem?_map, List.getElem?_eq_getElem (by omega), List.getD_eq_getElem?_getD, List.getElem?_eq_getElem (by omega)]; rfl
    have np : ixN (left.map D.int).length (p : Int) = some p := by rw [List.length_map, ixN, if_pos (by omega), if_pos (by omega), Int.toNat_natCast]
    generalize left.getD p 0 = v at *
    generalize cells.getD p 0 = u at *
    have fl : (found.map D.int).length < line := by rw [List.length_map]; unfold line; omega
    have fl2 : (found.map D.int).length < 16777216 := fl
    have fin : ∀ (left' : List Int) (y : Int), left'.length = cells.length → 0 ≤ y → y < 2147483629 → I (j + 1) [.v (.scr (ns.map D.int)), .v (.lst (cells.map D.int)), .v (.bl bd), .o (.lst (left'.map D.int)), .o (.lst (found.map D.int ++ [.int y])), .un, .un, .un] := fun left' y hl' h0 h1 => (hI0 _ _).mpr ⟨left', found ++ [y], hl', by simp [h2], fun x hx => by
      rcases List.mem_append.mp hx with z | z
      · exact h3 x z
      · rw [List.mem_singleton] at z; subst z; exact ⟨h0, h1⟩, by simp⟩
    have e1 : opMod (.int v) (.int 2147483629) = some (.int (v % 2147483629)) := opMod_int (by decide)
    have e2 : opDiv (.int v) (.int 2147483629) = some (.int (v / 2147483629)) := opDiv_int (by decide) (by decide)
    obtain ⟨ni, hni⟩ : ∃ ni : Bool, opNotIn (.int v) (.lst [.int 0, .int (-1)]) = some (.bl ni) := by
      refine ⟨!([D.int 0, D.int (-1)].any fun y => D.eqv y (.int v)), ?_⟩
      rw [opNotIn, show opIn (.int v) (.lst [.int 0, .int (-1)]) = some (.bl ([D.int 0, D.int (-1)].any fun y => D.eqv y (.int v))) from rfl]
    have m1 : opMod (.int u) (.int 2147483629) = some (.int (u % 2147483629)) := opMod_int (by decide)
    have u0 := Int.emod_nonneg u (show (2147483629 : Int) ≠ 0 by decide)
    have u1 := Int.emod_lt_of_pos u (show (0 : Int) < 2147483629 by decide)
    have v0 := Int.emod_nonneg v (show (2147483629 : Int) ≠ 0 by decide)
    have v1 := Int.emod_lt_of_pos v (show (0 : Int) < 2147483629 by decide)
    generalize u % 2147483629 = u9 at *
    generalize v % 2147483629 = v9 at *
    have m2 : opMul (.int u9) (.int 48271) = some (.int (u9 * 48271)) := opMul_b (by omega) (by decide)
    have m3 : opMul (.int 7919) (.int (j : Int)) = some (.int (7919 * j)) := opMul_b (by decide) (by omega)
    have m4 : opMul (.int (7919 * (j : Int))) (.int (j : Int)) = some (.int (7919 * j * j)) := by
      obtain ⟨a, ha⟩ : ∃ a : Int, a = 7919 * (j : Int) := ⟨_, rfl⟩
      rw [← ha]
      exact opMul_b (by omega) (by omega)
    generalize 7919 * (j : Int) * (j : Int) = w1 at *
    have m5 : opMod (.int (u9 * 48271 + w1 + 104729)) (.int 2147483647) = some (.int ((u9 * 48271 + w1 + 104729) % 2147483647)) := opMod_int (by decide)
    have w20 := Int.emod_nonneg (u9 * 48271 + w1 + 104729) (show (2147483647 : Int) ≠ 0 by decide)
    have w21 := Int.emod_lt_of_pos (u9 * 48271 + w1 + 104729) (show (0 : Int) < 2147483647 by decide)
    generalize (u9 * 48271 + w1 + 104729) % 2147483647 = w2 at *
    have m6 : opMul (.int w2) (.int w2) = some (.int (w2 * w2)) := opMul_b (by omega) (by omega)
    generalize w2 * w2 = w22 at *
    have m7 : opMod (.int w22) (.int 2147483629) = some (.int (w22 % 2147483629)) := opMod_int (by decide)
    have w30 := Int.emod_nonneg w22 (show (2147483629 : Int) ≠ 0 by decide)
    have w31 := Int.emod_lt_of_pos w22 (show (0 : Int) < 2147483629 by decide)
    generalize w22 % 2147483629 = w3 at *
    have m8 : opMul (.int w3) (.int 69621) = some (.int (w3 * 69621)) := opMul_b (by omega) (by decide)
    have m9 : opMul (.int 3571) (.int (j : Int)) = some (.int (3571 * j)) := opMul_b (by decide) (by omega)
    have ma : opMod (.int (w3 * 69621 + 3571 * (j : Int))) (.int 2147483563) = some (.int ((w3 * 69621 + 3571 * (j : Int)) % 2147483563)) := opMod_int (by decide)
    have w40 := Int.emod_nonneg (w3 * 69621 + 3571 * (j : Int)) (show (2147483563 : Int) ≠ 0 by decide)
    have w41 := Int.emod_lt_of_pos (w3 * 69621 + 3571 * (j : Int)) (show (0 : Int) < 2147483563 by decide)
    generalize (w3 * 69621 + 3571 * (j : Int)) % 2147483563 = w4 at *
    have mb : opMul (.int w4) (.int w3) = some (.int (w4 * w3)) := opMul_b (by omega) (by omega)
    generalize w4 * w3 = w5 at *
    have mc : opMod (.int w5) (.int 2147483629) = some (.int (w5 % 2147483629)) := opMod_int (by decide)
    have w60 := Int.emod_nonneg w5 (show (2147483629 : Int) ≠ 0 by decide)
    have w61 := Int.emod_lt_of_pos w5 (show (0 : Int) < 2147483629 by decide)
    generalize w5 % 2147483629 = w6 at *
    have f1 := fin (left.set p (v / 2147483629)) v9 (by rw [List.length_set, h1]) v0 v1
    have f2 := fin left w6 h1 w60 w61
    rw [List.map_set] at f1
    have cl : ((cells.map D.int).length : Int) = (cells.length : Int) := by rw [List.length_map]
    generalize cells.map D.int = cd at *
    generalize left.map D.int = ld at *
    generalize found.map D.int = fd at *
    cases bd with
    | false =>
      simp -implicitDefEqProofs [b_law_draws_1, Sl.frz, D.flat, cl, md, il, ic, e1, m1, m2, m3, m4, m5, m6, m7, m8, m9, ma, mb, mc, chg, hAppend, fl]
      exact f2
    | true =>
      cases ni with
      | false =>
        simp -implicitDefEqProofs [b_law_draws_1, Sl.frz, D.flat, cl, md, il, ic, e1, hni, m1, m2, m3, m4, m5, m6, m7, m8, m9, ma, mb, mc, chg, hAppend, fl2, line]
        exact f2
      | true =>
        simp -implicitDefEqProofs [b_law_draws_1, Sl.frz, D.flat, cl, md, il, ic, e1, e2, hni, np, sSetIx, chg, hSetL, hAppend, fl2, line]
        exact f1, fun r hr => by cases hr⟩)
  obtain ⟨ρ', k1, k2⟩ := k1 fun _ _ _ => rfl
  obtain ⟨left, found, h1, h2, h3, rfl⟩ := (hI0 _ _).mp k2
  refine ⟨found.reverse, fun x hx => h3 x (List.mem_reverse.mp hx), ?_⟩
  have dm : opMod (.int c0) (.int 2) = some (.int (c0 % 2)) := opMod_int (by decide)
  have ap : opAdd (.lst (ns.map D.int)) (.lst [.int 0]) = some (.lst (ns.map D.int ++ [.int 0])) := by
    rw [opAdd, if_pos (by rw [List.length_map]; simp [line]; omega)]
  have ln : ((ns.map D.int).length : Int) = (ns.length : Int) := by rw [List.length_map]
  have r1 := inR_of (show (-1000000000 : Int) ≤ 600 by omega) (by omega)
  rw [s_law_draws, run_ap (by rfl)]
  unfold drD
  rw [List.map_reverse]
  rw [hbd] at k1
  generalize ns.map D.int = nd at *
  generalize (c0 :: cr).map D.int = cd at *
  generalize cells.map D.int = ce at *
  generalize left.map D.int = ld at *
  generalize found.map D.int = fd at *
  simp -implicitDefEqProofs [g_law_draws, Sl.frz, D.flat, ct, ap, ln, mn, hq, hcs, ix0, dv, n0, st0, dm, sSetIx, chg, hSetL, eCutL, opCutL, frz1, opList, k1, r1, opRevL, lent, line]
/-! words whose end is no double -/
theorem opEq_w {a b : List Nat} (ha : IsW 4 a) (hb : IsW 4 b) : opEq (.str a) (.str b) = some (.bl (decide (a = b))) := by
  rw [opEq, lv_str ha (by decide), lv_str hb (by decide), D.eqv]
  show some (D.bl (a == b)) = _
  by_cases h : a = b
  · rw [decide_eq_true h, beq_iff_eq.mpr h]
  · rw [decide_eq_false h, beq_eq_false_iff_ne.mpr h]
/-- the word's last h signs are the h ahead of them -/
def dblE (w : List Nat) (h : Nat) : Bool := decide (w.drop (w.length - h) = (w.take (w.length - h)).drop (w.length - 2 * h))
def efree (w : List Nat) : Bool := !((List.range (w.length / 2)).any fun j => dblE w (j + 1))
theorem any_find {α β : Type} (p : α → Bool) (y : β) (xs : List α) : xs.findSome? (fun x => if p x then some y else none) = if xs.any p then some y else none := by
  induction xs with
  | nil => rfl
  | cons x r ih =>
    rw [List.findSome?_cons, List.any_cons]
    by_cases h : p x = true
    · rw [if_pos h, h]; rfl
    · rw [if_neg h, ih]
      rw [Bool.not_eq_true] at h
      rw [h, Bool.false_or]
theorem ends_free_ok {w : List Nat} (hw : IsW 4 w) (hl : w.length ≤ 1000) : s_law_ends_free [.v (.str w)] = .ok (.v (.bl (efree w))) [.v (.str w)] := by
  have e1 : opLen (.str w) = some (.int w.length) := opLen_str (by unfold line; omega)
  have e2 : opDiv (.int (w.length : Int)) (.int 2) = some (.int ((w.length / 2 : Nat) : Int)) := by
    rw [opDiv_int (by decide) (by decide)]; rfl
  have r1 := inR_of (show (-1000000000 : Int) ≤ 1 by decide) (by decide)
  have r2 := inR_of (show (-1000000000 : Int) ≤ ((w.length / 2 : Nat) : Int) + 1 by omega) (by omega)
  have key := forL_some (g := .n 2) (ks := [2, 3]) (b := b_law_ends_free_1) (fun _ => [.v (.str w), .v (.int (w.length : Int)), .un, .un])
    (fun d => match d with | .int h => if dblE w h.toNat then some (.v (.bl false)) else none | _ => none) (rng ((1 : Nat) : Int) ((1 + w.length / 2 : Nat) : Int)) (fun j x hx => by
      obtain ⟨rfl, hj⟩ := rng_get hx
      obtain ⟨h, hh⟩ : ∃ h, h = j + 1 := ⟨_, rfl⟩
      rw [show ((1 : Nat) : Int) + (j : Int) = (h : Int) by omega]
      dsimp only
      rw [Int.toNat_natCast]
      have i1 : (w.length : Int) - (h : Int) = ((w.length - h : Nat) : Int) := by omega
      have i2 : (w.length : Int) - 2 * (h : Int) = ((w.length - 2 * h : Nat) : Int) := by omega
      have m1 : opMul (.int 2) (.int (h : Int)) = some (.int (2 * (h : Int))) := opMul_b (by decide) (by omega)
      have c1 : opCut (.str w) (some ((w.length - h : Nat) : Int)) none = some (.str (w.drop (w.length - h))) := by rw [opCut_str (by unfold line; omega), cut_drop]
      have c2 : opCut (.str w) (some ((w.length - 2 * h : Nat) : Int)) (some ((w.length - h : Nat) : Int)) = some (.str ((w.take (w.length - h)).drop (w.length - 2 * h))) := by rw [opCut_str (by unfold line; omega), cut_mid]
      have q := opEq_w (IsW.drop hw (w.length - h)) (IsW.drop (IsW.take hw (w.length - h)) (w.length - 2 * h))
      unfold dblE
      generalize w.drop (w.length - h) = a at *
      generalize (w.take (w.length - h)).drop (w.length - 2 * h) = b at *
      by_cases z : a = b
      · rw [decide_eq_true z] at q ⊢
        refine ⟨fun y => by simp at y, fun r hr => ?_⟩
        simp only [if_true, Option.some.injEq] at hr
        subst hr
        simp -implicitDefEqProofs [b_law_ends_free_1, i1, i2, m1, c1, c2, q]
      · rw [decide_eq_false z] at q ⊢
        refine ⟨fun _ => ?_, fun r hr => (by simp at hr)⟩
        simp -implicitDefEqProofs [b_law_ends_free_1, i1, i2, m1, c1, c2, q])
  rw [findS_range (q := fun j => if dblE w (j + 1) then some (Sl.v (.bl false)) else none) (h := fun j _ => by simp only [Int.toNat_natCast, Nat.add_comm 1 j]), any_find] at key
  obtain ⟨k1, k2⟩ := key
  rw [s_law_ends_free, run_ap (by rfl)]
  rw [show ((1 + w.length / 2 : Nat) : Int) = ((w.length / 2 : Nat) : Int) + 1 by omega] at k1 k2
  rw [show ((1 : Nat) : Int) = 1 from rfl] at k1 k2
  unfold efree
  generalize w.length / 2 = n2 at *
  by_cases z : ((List.range n2).any fun j => dblE w (j + 1)) = true
  · rw [if_pos z] at k2
    obtain ⟨ρ', k3⟩ := k2 _ rfl
    rw [z]
    simp -implicitDefEqProofs [g_law_ends_free, e1, e2, r1, r2, k3, lent]
  · rw [if_neg z] at k1
    have k3 := k1 rfl
    rw [Bool.not_eq_true] at z
    rw [z]
    simp -implicitDefEqProofs [g_law_ends_free, e1, e2, r1, r2, k3, lent]
theorem pends_free_ok {w : List Nat} (hw : IsW 4 w) (hl : w.length ≤ 1000) : s_ends_free [.v (.str w)] = .ok (.v (.bl (efree w))) [.v (.str w)] := by
  have e1 : opLen (.str w) = some (.int w.length) := opLen_str (by unfold line; omega)
  have e2 : opDiv (.int (w.length : Int)) (.int 2) = some (.int ((w.length / 2 : Nat) : Int)) := by
    rw [opDiv_int (by decide) (by decide)]; rfl
  have r1 := inR_of (show (-1000000000 : Int) ≤ 1 by decide) (by decide)
  have r2 := inR_of (show (-1000000000 : Int) ≤ ((w.length / 2 : Nat) : Int) + 1 by omega) (by omega)
  have key := forL_some (g := .n 2) (ks := [2]) (b := b_ends_free_1) (fun _ => [.v (.str w), .v (.int (w.length : Int)), .un])
    (fun d => match d with | .int h => if dblE w h.toNat then some (.v (.bl false)) else none | _ => none) (rng ((1 : Nat) : Int) ((1 + w.length / 2 : Nat) : Int)) (fun j x hx => by
      obtain ⟨rfl, hj⟩ := rng_get hx
      obtain ⟨h, hh⟩ : ∃ h, h = j + 1 := ⟨_, rfl⟩
      rw [show ((1 : Nat) : Int) + (j : Int) = (h : Int) by omega]
      dsimp only
      rw [Int.toNat_natCast]
      have i1 : (w.length : Int) - (h : Int) = ((w.length - h : Nat) : Int) := by omega
      have i2 : (w.length : Int) - 2 * (h : Int) = ((w.length - 2 * h : Nat) : Int) := by omega
      have m1 : opMul (.int 2) (.int (h : Int)) = some (.int (2 * (h : Int))) := opMul_b (by decide) (by omega)
      have c1 : opCut (.str w) (some ((w.length - h : Nat) : Int)) none = some (.str (w.drop (w.length - h))) := by rw [opCut_str (by unfold line; omega), cut_drop]
      have c2 : opCut (.str w) (some ((w.length - 2 * h : Nat) : Int)) (some ((w.length - h : Nat) : Int)) = some (.str ((w.take (w.length - h)).drop (w.length - 2 * h))) := by rw [opCut_str (by unfold line; omega), cut_mid]
      have q := opEq_w (IsW.drop hw (w.length - h)) (IsW.drop (IsW.take hw (w.length - h)) (w.length - 2 * h))
      unfold dblE
      generalize w.drop (w.length - h) = a at *
      generalize (w.take (w.length - h)).drop (w.length - 2 * h) = b at *
      by_cases z : a = b
      · rw [decide_eq_true z] at q ⊢
        refine ⟨fun y => by simp at y, fun r hr => ?_⟩
        simp only [if_true, Option.some.injEq] at hr
        subst hr
        simp -implicitDefEqProofs [b_ends_free_1, i1, i2, m1, c1, c2, q]
      · rw [decide_eq_false z] at q ⊢
        refine ⟨fun _ => ?_, fun r hr => (by simp at hr)⟩
        simp -implicitDefEqProofs [b_ends_free_1, i1, i2, m1, c1, c2, q])
  rw [findS_range (q := fun j => if dblE w (j + 1) then some (Sl.v (.bl false)) else none) (h := fun j _ => by simp only [Int.toNat_natCast, Nat.add_comm 1 j]), any_find] at key
  obtain ⟨k1, k2⟩ := key
  rw [s_ends_free, run_ap (by rfl)]
  rw [show ((1 + w.length / 2 : Nat) : Int) = ((w.length / 2 : Nat) : Int) + 1 by omega] at k1 k2
  rw [show ((1 : Nat) : Int) = 1 from rfl] at k1 k2
  unfold efree
  generalize w.length / 2 = n2 at *
  by_cases z : ((List.range n2).any fun j => dblE w (j + 1)) = true
  · rw [if_pos z] at k2
    obtain ⟨ρ', k3⟩ := k2 _ rfl
    rw [z]
    simp -implicitDefEqProofs [g_ends_free, e1, e2, r1, r2, k3, lent]
  · rw [if_neg z] at k1
    have k3 := k1 rfl
    rw [Bool.not_eq_true] at z
    rw [z]
    simp -implicitDefEqProofs [g_ends_free, e1, e2, r1, r2, k3, lent]
/-! words made longer by a letter -/
def lets (m : Nat) : List Nat := [97, 98, 99, 100].take m
theorem lets_w {m : Nat} (hm : m ≤ 4) : IsW m (lets m) := fun c hc => by
  have h : m = 0 ∨ m = 1 ∨ m = 2 ∨ m = 3 ∨ m = 4 := by omega
  rcases h with rfl | rfl | rfl | rfl | rfl <;> simp [lets] at hc <;> omega
def lt1 (w cs : List Nat) : List (List Nat) := (cs.filter fun c => efree (w ++ [c])).map fun c => w ++ [c]
def longer (m : Nat) (ws : List (List Nat)) : List (List Nat) := ws.flatMap fun w => lt1 w (lets m)
structure IsWs (m n : Nat) (ws : List (List Nat)) : Prop where
  ok : ∀ w ∈ ws, IsW m w ∧ w.length = n
theorem lt1_len (w cs : List Nat) : (lt1 w cs).length ≤ cs.length := by
  rw [lt1, List.length_map]; exact List.length_filter_le _ _
theorem lets_len (m : Nat) : (lets m).length ≤ 4 := by rw [lets, List.length_take]; simp; omega
theorem longer_len (m : Nat) : ∀ ws, (longer m ws).length ≤ 4 * ws.length
  | [] => Nat.le_refl _
  | w :: r => by
    have ih := longer_len m r
    have h1 := lt1_len w (lets m)
    have h2 := lets_len m
    unfold longer at *
    rw [List.flatMap_cons, List.length_append, List.length_cons]
    omega
theorem longer_ok {m n : Nat} (hm : m ≤ 4) {ws : List (List Nat)} (h : IsWs m n ws) : IsWs m (n + 1) (longer m ws) := ⟨fun v hv => by
  obtain ⟨w, hw, hv⟩ := List.mem_flatMap.mp hv
  obtain ⟨c, hc, rfl⟩ := List.mem_map.mp hv
  obtain ⟨h1, h2⟩ := h.ok w hw
  have hc2 := lets_w hm c (List.mem_filter.mp hc).1
  exact ⟨IsW.app h1 (IsW.one hc2.1 hc2.2), by simp [h2]⟩⟩
theorem longer_app (m : Nat) (a b : List (List Nat)) : longer m (a ++ b) = longer m a ++ longer m b := by unfold longer; exact List.flatMap_append
theorem lt1_app (w a b : List Nat) : lt1 w (a ++ b) = lt1 w a ++ lt1 w b := by unfold lt1; rw [List.filter_append, List.map_append]
theorem letters_ok (m : Nat) : s_letters [.v (.int (m : Int))] = .ok (.v (.str (lets m))) [.v (.int (m : Int))] := by
  rw [s_letters, run_ap (by rfl)]
  simp -implicitDefEqProofs [g_letters, c_LETTERS, opCut, cut_take, lent, line, lets]
theorem made_inner {m n : Nat} (hm : m ≤ 4) (hn : n ≤ 100) {w : List Nat} (hw : IsW m w) (hl : w.length = n) (L : List D) (hL : L.length ≤ 10000) (a0 : Sl) :
    forL (.n 4) [4] b_made_longer_1 ((lets m).map fun c => D.str [c]) [a0, .v (.int (m : Int)), .o (.lst L), .v (.str w), .un] = .ok .nx [a0, .v (.int (m : Int)), .o (.lst (L ++ (lt1 w (lets m)).map D.str)), .v (.str w), .un] := by
  have key := forL_at (g := .n 4) (ks := [4]) (b := b_made_longer_1) (fun i => [a0, .v (.int (m : Int)), .o (.lst (L ++ (lt1 w ((lets m).take i)).map D.str)), .v (.str w), .un]) ((lets m).map fun c => D.str [c]) (fun j x hx => by
    rw [List.getElem?_map] at hx
    cases e : (lets m)[j]? with
    | none => rw [e] at hx; cases hx
    | some c =>
      rw [e] at hx
      obtain rfl := Option.some.inj hx
      have hc2 := lets_w hm c (List.mem_of_getElem? e)
      have et : (lets m).take (j + 1) = (lets m).take j ++ [c] := by rw [List.take_succ, e]; rfl
      have ad : opAdd (.str w) (.str [c]) = some (.str (w ++ [c])) := opAdd_str (by unfold line; simp; omega)
      have ef := pends_free_ok (w := w ++ [c]) (IsW.up (IsW.app hw (IsW.one hc2.1 hc2.2)) hm) (by simp; omega)
      have l2 := lt1_len w ((lets m).take j)
      have l3 := lets_len m
      have l4 : ((lets m).take j).length ≤ (lets m).length := by rw [List.length_take]; omega
      have ln : (L ++ (lt1 w ((lets m).take j)).map D.str).length < 16777216 := by rw [List.length_append, List.length_map]; omega
      have e1 : lt1 w [c] = if efree (w ++ [c]) = true then [w ++ [c]] else [] := by
        unfold lt1
        by_cases z : efree (w ++ [c]) = true
        · rw [if_pos z]; simp [z]
        · rw [if_neg z]; simp [z]
      rw [et, lt1_app, e1, List.map_append, ← List.append_assoc]
      generalize L ++ (lt1 w ((lets m).take j)).map D.str = LL at *
      generalize efree (w ++ [c]) = z at *
      generalize w ++ [c] = wc at *
      cases z with
      | true => simp -implicitDefEqProofs [b_made_longer_1, ad, ef, chg, hAppend, ln, line]
      | false => simp -implicitDefEqProofs [b_made_longer_1, ad, ef])
  rw [List.length_map, List.take_length] at key
  have e0 : L ++ (lt1 w []).map D.str = L := by simp [lt1]
  rw [List.take_zero, e0] at key
  exact key
theorem made_ok {m n : Nat} (hm : m ≤ 4) (hn : n ≤ 100) {ws : List (List Nat)} (h : IsWs m n ws) (hl : ws.length ≤ 2000) : s_made_longer [.v (.lst (ws.map D.str)), .v (.int (m : Int))] = .ok (.o (.lst ((longer m ws).map D.str))) [.v (.lst (ws.map D.str)), .v (.int (m : Int))] := by
  have lo := letters_ok m
  have key := forL_at (g := .n 3) (ks := [3, 4]) (b := b_made_longer_2) (fun i => [.v (.lst (ws.map D.str)), .v (.int (m : Int)), .o (.lst ((longer m (ws.take i)).map D.str)), .un, .un]) (ws.map D.str) (fun j x hx => by
    rw [List.getElem?_map] at hx
    cases e : ws[j]? with
    | none => rw [e] at hx; cases hx
    | some w =>
      rw [e] at hx
      obtain rfl := Option.some.inj hx
      obtain ⟨h1, h2⟩ := h.ok w (List.mem_of_getElem? e)
      have et : ws.take (j + 1) = ws.take j ++ [w] := by rw [List.take_succ, e]; rfl
      have l1 : longer m (ws.take (j + 1)) = longer m (ws.take j) ++ lt1 w (lets m) := by rw [et, longer_app]; simp [longer]
      have l2 := longer_len m (ws.take j)
      have l5 : (ws.take j).length ≤ ws.length := by rw [List.length_take]; omega
      have k := made_inner hm hn h1 h2 ((longer m (ws.take j)).map D.str) (by rw [List.length_map]; omega) (.v (.lst (ws.map D.str)))
      rw [l1, List.map_append]
      generalize (longer m (ws.take j)).map D.str = L1 at *
      generalize (lt1 w (lets m)).map D.str = L2 at *
      generalize lets m = ls at *
      simp -implicitDefEqProofs [b_made_longer_2, lo, k])
  rw [List.length_map, List.take_length] at key
  have e0 : (longer m []).map D.str = [] := rfl
  rw [List.take_zero, e0] at key
  rw [s_made_longer, run_ap (by rfl)]
  generalize (longer m ws).map D.str = R at *
  simp -implicitDefEqProofs [g_made_longer, key, lent, line]
/-- the words that are free of doubles, one letter more at each turn -/
def frees (m : Nat) : Nat → List (List Nat)
  | 0 => [[]]
  | n + 1 => longer m (frees m n)
theorem frees_ok {m : Nat} (hm : m ≤ 4) : ∀ n, IsWs m n (frees m n)
  | 0 => ⟨fun w hw => by
    rw [frees, List.mem_singleton] at hw
    subst hw
    exact ⟨IsW.nil, rfl⟩⟩
  | n + 1 => longer_ok hm (frees_ok hm n)
/-- the first turn at which there are too many -/
def tooMany (m n : Nat) : Bool := (List.range n).any fun j => decide (300 < (frees m (j + 1)).length)
theorem number_ok {m c : Nat} (h0 : 97 ≤ c) (h : c < 97 + m) (hm : m ≤ 4) : s_number_of [.v (.str [c])] = .ok (.v (.int ((c - 97 : Nat) : Int))) [.v (.str [c])] := by
  rw [s_number_of, run_ap (by rfl)]
  simp -implicitDefEqProofs [g_number_of, c_LETTERS, abcd_no h0 h hm, lent]
theorem within_ok {m b : Nat} {ws : List (List Nat)} (hr : IsR m b ws) (hm : m ≤ 4) {w : List Nat} (hw : IsW m w) (most : Nat) (hs : ((imgs ws w).map List.length).sum ≤ most) (hs2 : most ≤ 1000000) (hl : w.length ≤ line) :
    s_image_within [.v (.tup (ws.map D.str)), .v (.str w), .v (.int (most : Int))] = .ok (.v (.str (img ws w))) [.v (.tup (ws.map D.str)), .v (.str w), .v (.int (most : Int))] := by
  rw [s_image_within, run_ap (by rfl)]
  have c1 := eComp_map (g := .n 4) (ws := [4]) (it := iE (eV 1)) (f := x_image_within_1) (ρ := [.v (.tup (ws.map D.str)), .v (.str w), .v (.int (most : Int)), .un, .un, .un]) (fun d => match d with | .str [c] => .str (ws.getD (c - 97) []) | d => d) (w.map fun c => D.str [c]) (by simp) (fun x hx => by
    obtain ⟨c, hc, rfl⟩ := List.mem_map.mp hx
    obtain ⟨h1, h2⟩ := hw c hc
    refine ⟨[.v (.tup (ws.map D.str)), .v (.str w), .v (.int (most : Int)), .un, .v (.str [c]), .un], rfl, ?_, rfl⟩
    simp -implicitDefEqProofs [x_image_within_1, number_ok h1 h2 hm, ix_rule hr.len h1 h2]) (by rw [List.length_map]; exact hl)
  have e1 : (w.map fun c => D.str [c]).map (fun d => match d with | .str [c] => .str (ws.getD (c - 97) []) | d => d) = (imgs ws w).map D.str := by
    rw [imgs, List.map_map, List.map_map]; rfl
  rw [e1] at c1
  have c2 := eComp_map (g := .n 5) (ws := [5]) (it := iE (eV 3)) (f := NV.e1 opLen (eV 5)) (ρ := [.v (.tup (ws.map D.str)), .v (.str w), .v (.int (most : Int)), .v (.lst ((imgs ws w).map D.str)), .un, .un]) (fun d => match d with | .str w => .int w.length | d => d) ((imgs ws w).map D.str) (by simp) (fun x hx => by
    obtain ⟨v, hv, rfl⟩ := List.mem_map.mp hx
    have h1 := le_sum hv
    have e2 : opLen (.str v) = some (.int v.length) := opLen_str (by unfold line; omega)
    refine ⟨[.v (.tup (ws.map D.str)), .v (.str w), .v (.int (most : Int)), .v (.lst ((imgs ws w).map D.str)), .un, .v (.str v)], rfl, ?_, rfl⟩
    simp -implicitDefEqProofs [e2]) (by rw [List.length_map, imgs, List.length_map]; exact hl)
  have e3 : ((imgs ws w).map D.str).map (fun d => match d with | .str w => D.int w.length | d => d) = ((imgs ws w).map fun w => (w.length : Int)).map D.int := by
    rw [List.map_map, List.map_map]; rfl
  rw [e3] at c2
  have e4 := sum_ok ((imgs ws w).map fun w => (w.length : Int))
  rw [sumI] at e4
  have e5 := join_ok (imgs ws w) (by unfold line; omega)
  have e6 : ¬ ((most : Int) < (((imgs ws w).map List.length).sum : Nat)) := by omega
  simp -implicitDefEqProofs [g_image_within, c1, c2, e4, e5, e6, lent, img, -List.map_map]
theorem image_ok {m b : Nat} {ws : List (List Nat)} (hr : IsR m b ws) (hm : m ≤ 4) {w : List Nat} (hw : IsW m w) (hs : w.length * b ≤ 20000) (hl : w.length ≤ line) :
    s_image [.v (.tup (ws.map D.str)), .v (.str w)] = .ok (.v (.str (img ws w))) [.v (.tup (ws.map D.str)), .v (.str w)] := by
  rw [s_image, run_ap (by rfl)]
  have := within_ok hr hm hw 20000 (Nat.le_trans (imgs_sum hr hw) hs) (by decide) hl
  rw [show ((20000 : Nat) : Int) = 20000 from rfl] at this
  simp -implicitDefEqProofs [g_image, c_MOST_IMAGE, this, lent]
/-! the longest and the shortest word of a rule -/
def mxl (ws : List (List Nat)) : Nat := ws.foldl (fun a w => max a w.length) 0
def mnl : List (List Nat) → Nat
  | [] => 0
  | w :: r => r.foldl (fun a v => min a v.length) w.length
def lensD (ws : List (List Nat)) : List D := ws.map fun w => D.int (w.length : Int)
theorem intsD_lens (ws : List (List Nat)) : intsD (lensD ws) = some (ws.map fun w => (w.length : Int)) := by
  have := ints_map (ws.map fun w => (w.length : Int))
  rwa [List.map_map] at this
theorem mx_fold : ∀ (ws : List (List Nat)) (a : Nat), (ws.map fun w => (w.length : Int)).foldl max (a : Int) = ((ws.foldl (fun a w => max a w.length) a : Nat) : Int)
  | [], _ => rfl
  | w :: r, a => by
    rw [List.map_cons, List.foldl_cons, List.foldl_cons, ← mx_fold r (max a w.length)]
    congr 1
    omega
theorem mn_fold : ∀ (ws : List (List Nat)) (a : Nat), (ws.map fun w => (w.length : Int)).foldl min (a : Int) = ((ws.foldl (fun a w => min a w.length) a : Nat) : Int)
  | [], _ => rfl
  | w :: r, a => by
    rw [List.map_cons, List.foldl_cons, List.foldl_cons, ← mn_fold r (min a w.length)]
    congr 1
    omega
theorem opMax_lens {ws : List (List Nat)} (h : 1 ≤ ws.length) : opMaxL (.lst (lensD ws)) = some (.int (mxl ws : Int)) := by
  match ws, h with
  | w :: r, _ =>
    rw [opMaxL, intsD_lens, List.map_cons, Option.bind_some, List.max?_cons', mx_fold, mxl, List.foldl_cons, Nat.zero_max]; rfl
theorem opMin_lens {ws : List (List Nat)} (h : 1 ≤ ws.length) : opMinL (.lst (lensD ws)) = some (.int (mnl ws : Int)) := by
  match ws, h with
  | w :: r, _ =>
    rw [opMinL, intsD_lens, List.map_cons, Option.bind_some, List.min?_cons', mn_fold, mnl]; rfl
theorem mx_ge : ∀ (ws : List (List Nat)) (a : Nat), a ≤ ws.foldl (fun a w => max a w.length) a ∧ ∀ w ∈ ws, w.length ≤ ws.foldl (fun a w => max a w.length) a
  | [], a => ⟨Nat.le_refl _, fun w hw => by cases hw⟩
  | w :: r, a => by
    obtain ⟨h1, h2⟩ := mx_ge r (max a w.length)
    rw [List.foldl_cons]
    refine ⟨by omega, fun v hv => ?_⟩
    rcases List.mem_cons.mp hv with rfl | hv
    · omega
    · exact h2 v hv
theorem mx_le : ∀ (ws : List (List Nat)) (a b : Nat), a ≤ b → (∀ w ∈ ws, w.length ≤ b) → ws.foldl (fun a w => max a w.length) a ≤ b
  | [], a, b, h, _ => h
  | w :: r, a, b, h, k => by
    rw [List.foldl_cons]
    exact mx_le r _ b (by have := k w List.mem_cons_self; omega) fun v hv => k v (List.mem_cons_of_mem _ hv)
theorem mn_le : ∀ (ws : List (List Nat)) (a : Nat), ws.foldl (fun a w => min a w.length) a ≤ a ∧ ∀ w ∈ ws, ws.foldl (fun a w => min a w.length) a ≤ w.length
  | [], a => ⟨Nat.le_refl _, fun w hw => by cases hw⟩
  | w :: r, a => by
    obtain ⟨h1, h2⟩ := mn_le r (min a w.length)
    rw [List.foldl_cons]
    refine ⟨by omega, fun v hv => ?_⟩
    rcases List.mem_cons.mp hv with rfl | hv
    · omega
    · exact h2 v hv
theorem mn_ge : ∀ (ws : List (List Nat)) (a b : Nat), b ≤ a → (∀ w ∈ ws, b ≤ w.length) → b ≤ ws.foldl (fun a w => min a w.length) a
  | [], a, b, h, _ => h
  | w :: r, a, b, h, k => by
    rw [List.foldl_cons]
    exact mn_ge r _ b (by have := k w List.mem_cons_self; omega) fun v hv => k v (List.mem_cons_of_mem _ hv)
theorem mxl_ge {ws : List (List Nat)} {w : List Nat} (h : w ∈ ws) : w.length ≤ mxl ws := (mx_ge ws 0).2 w h
theorem mxl_le {ws : List (List Nat)} {b : Nat} (h : ∀ w ∈ ws, w.length ≤ b) : mxl ws ≤ b := mx_le ws 0 b (by omega) h
theorem mnl_le {ws : List (List Nat)} {w : List Nat} (h : w ∈ ws) : mnl ws ≤ w.length := by
  match ws, h with
  | v :: r, h =>
    obtain ⟨h1, h2⟩ := mn_le r v.length
    rcases List.mem_cons.mp h with rfl | h
    · exact h1
    · exact h2 w h
theorem mnl_ge {ws : List (List Nat)} {b : Nat} (hl : 1 ≤ ws.length) (h : ∀ w ∈ ws, b ≤ w.length) : b ≤ mnl ws := by
  match ws, hl with
  | v :: r, _ => exact mn_ge r v.length b (h v List.mem_cons_self) fun w hw => h w (List.mem_cons_of_mem _ hw)
def lenF : D → D
  | .str w => .int w.length
  | d => d
theorem lenF_s (w : List Nat) : lenF (.str w) = .int w.length := rfl
theorem lens_F (ws : List (List Nat)) : (ws.map D.str).map lenF = lensD ws := by
  rw [List.map_map]; rfl
def looked (ws : List (List Nat)) : Nat := 3 + (mxl ws - 4) / mnl ws
theorem looked_ok {m b : Nat} {ws : List (List Nat)} (hr : IsR m b ws) (hm : m ≤ 4) (hm1 : 1 ≤ m) (hb : b ≤ 1000) : s_looked_length [.v (.tup (ws.map D.str))] = .ok (.v (.int (looked ws : Int))) [.v (.tup (ws.map D.str))] := by
  have hl := hr.len
  have ll : (ws.map D.str).length ≤ line := by rw [List.length_map]; unfold line; omega
  have cc : ∀ a1 a2 : Sl, eComp (.n 3) [3] (iE (eV 0)) none (e1 opLen (eV 3)) [.v (.tup (ws.map D.str)), a1, a2, .un] = .ok (.lst (lensD ws)) [.v (.tup (ws.map D.str)), a1, a2, .un] := fun a1 a2 => by
    have c1 := eComp_go (g := .n 3) (ws := [3]) (it := iE (eV 0)) (f := e1 opLen (eV 3)) (ρ := [.v (.tup (ws.map D.str)), a1, a2, .un]) lenF (ws.map D.str) (by simp) (fun x hx => by
      obtain ⟨w, hw, rfl⟩ := List.mem_map.mp hx
      have h1 := (hr.ok w hw).2.2
      have h2 : opLen (.str w) = some (.int w.length) := opLen_str (by unfold line; omega)
      simp -implicitDefEqProofs [h2, lenF_s]) ll
    rwa [lens_F] at c1
  have mx := opMax_lens (ws := ws) (by omega)
  have mn := opMin_lens (ws := ws) (by omega)
  have g1 : 1 ≤ mnl ws := mnl_ge (by omega) fun w hw => (hr.ok w hw).2.1
  have g2 : mnl ws ≤ 1000 := by
    have h : ws[0]'(by omega) ∈ ws := List.getElem_mem _
    have := mnl_le h
    have := (hr.ok _ h).2.2
    omega
  have c1 := cc .un .un
  have c2 := cc (.v (.int (mxl ws : Int))) .un
  have m2 : opMax2 (.int 0) (.int ((mxl ws : Int) - 4)) = some (.int ((mxl ws - 4 : Nat) : Int)) := by
    rw [opMax2]
    congr 2
    split <;> omega
  have d1 : opDiv (.int ((mxl ws - 4 : Nat) : Int)) (.int (mnl ws : Int)) = some (.int (((mxl ws - 4) / mnl ws : Nat) : Int)) := by
    rw [opDiv_int (by omega) (by omega), Int.natCast_ediv]
  rw [s_looked_length, run_ap (by rfl)]
  unfold looked
  generalize (mxl ws - 4) / mnl ws = q at *
  generalize mxl ws = M at *
  generalize mnl ws = u at *
  generalize lensD ws = L at *
  generalize ws.map D.str = W at *
  simp -implicitDefEqProofs [g_looked_length, c1, c2, mx, mn, m2, d1, lent]
theorem forL_rz {g : Tg} {ks : List Nat} {b : Es} {x : D} {r : List D} {ρ ρ1 ρ2 : Env} {e : Exn} (h1 : g.put x ρ = some ρ1) (h2 : b ρ1 = .rz e ρ2) : forL g ks b (x :: r) ρ = .rz e ρ2 := by
  rw [forL]; simp only [h1, h2]
/-! the free words, length by length, and whether their images break -/
def chk (rs ws : List (List Nat)) : Option (List Nat × (Nat × Nat)) := ws.findSome? fun w => (rep 2 1 false (img rs w)).map fun p => (w, p)
def tellB (x : List Nat × (Nat × Nat)) : D := .tup [.str [98, 114, 101, 97, 107, 115], .str x.1, tellR 2 1 false x.2.1 x.2.2]
def gones (m : Nat) : Nat → List (List Nat)
  | 0 => []
  | i + 1 => gones m i ++ frees m (i + 1)
inductive Oc where
  | keep | great | brk (x : List Nat × (Nat × Nat))
def oc (rs : List (List Nat)) (m : Nat) : Nat → Nat → Oc
  | _, 0 => .keep
  | i, k + 1 => if 800 < (gones m (i + 1)).length then .great else match chk rs (frees m (i + 1)) with
    | some x => .brk x
    | none => oc rs m (i + 1) k
def items (i k : Nat) : List D := (List.range' i k).map fun j : Nat => D.int ((j : Nat) : Int)
theorem items_rng (n : Nat) : rng 0 (n : Int) = items 0 n := by
  rw [show (0 : Int) = ((0 : Nat) : Int) from rfl, rng_nat, items, List.range'_eq_map_range, List.map_map]; rfl
theorem items_succ (i k : Nat) : items i (k + 1) = .int (i : Int) :: items (i + 1) k := by rw [items, List.range'_succ, List.map_cons]; rfl
theorem chk_find (rs ws : List (List Nat)) : (ws.map D.str).findSome? (fun d => match d with | .str w => (rep 2 1 false (img rs w)).map fun p => Sl.v (tellB (w, p)) | _ => none) = (chk rs ws).map fun x => .v (tellB x) := by
  unfold chk
  induction ws with
  | nil => rfl
  | cons w r ih =>
    rw [List.map_cons, List.findSome?_cons, List.findSome?_cons, ih]
    dsimp only
    generalize rep 2 1 false (img rs w) = y
    cases y <;> rfl
theorem keep_inner {m : Nat} {rs : List (List Nat)} (hr : IsR m 12 rs) (hm : m ≤ 4) {n : Nat} (hn : n ≤ 100) {ws : List (List Nat)} (hw : IsWs m n ws) (a1 a2 a3 : Sl) :
    (chk rs ws = none → forL (.n 4) [4, 5] b_keeps_1 (ws.map D.str) [.v (.tup (rs.map D.str)), a1, a2, a3, .un, .un] = .ok .nx [.v (.tup (rs.map D.str)), a1, a2, a3, .un, .un]) ∧
    (∀ x, chk rs ws = some x → ∃ ρ', forL (.n 4) [4, 5] b_keeps_1 (ws.map D.str) [.v (.tup (rs.map D.str)), a1, a2, a3, .un, .un] = .ok (.ret (.v (tellB x))) ρ') := by
  have key := forL_some (g := .n 4) (ks := [4, 5]) (b := b_keeps_1) (fun _ => [.v (.tup (rs.map D.str)), a1, a2, a3, .un, .un]) (fun d => match d with | .str w => (rep 2 1 false (img rs w)).map fun p => Sl.v (tellB (w, p)) | _ => none) (ws.map D.str) (fun j x hx => by
    rw [List.getElem?_map] at hx
    cases e : ws[j]? with
    | none => rw [e] at hx; cases hx
    | some w =>
      rw [e] at hx
      obtain rfl := Option.some.inj hx
      obtain ⟨h1, h2⟩ := hw.ok w (List.mem_of_getElem? e)
      have im := image_ok hr hm h1 (by omega) (by unfold line; omega)
      have il := img_len hr h1
      have rp := repeat_ok (t := 2) (b := 1) (a := false) (by decide) (by decide) (by decide) (IsW.up (img_w hr h1) hm) (show (img rs w).length ≤ wide by unfold wide; omega)
      rw [show LimD 2 1 false = c_DOUBLES from rfl] at rp
      dsimp only
      unfold repD at rp
      generalize img rs w = v at *
      generalize rep 2 1 false v = y at *
      cases y with
      | none =>
        refine ⟨fun _ => ?_, fun r hr => (by simp at hr)⟩
        simp -implicitDefEqProofs [b_keeps_1, im, rp, opNotN]
      | some p =>
        refine ⟨fun z => by simp at z, fun r hr => ?_⟩
        simp only [Option.map_some, Option.some.injEq] at hr
        subst hr
        unfold tellB tellR at *
        simp -implicitDefEqProofs [b_keeps_1, im, rp, opNotN, line])
  rw [chk_find] at key
  obtain ⟨k1, k2⟩ := key
  refine ⟨fun z => ?_, fun x z => ?_⟩
  · rw [z] at k1; exact k1 rfl
  · rw [z] at k2; exact k2 _ rfl
/-! a double that ends at a place, said three ways -/
theorem least21 (p : Nat) : least 2 1 false p = 2 * p := by
  unfold least
  rw [if_neg (by simp), Nat.add_sub_cancel, Nat.div_one]
theorem getD_td {v : List Nat} (a i : Nat) : (v.drop a).getD i 0 = v.getD (a + i) 0 := by
  rw [List.getD_eq_getElem?_getD, List.getElem?_drop, ← List.getD_eq_getElem?_getD]
theorem getD_tk {v : List Nat} {a i : Nat} (h : i < a) : (v.take a).getD i 0 = v.getD i 0 := by
  rw [List.getD_eq_getElem?_getD, List.getElem?_take_of_lt h, ← List.getD_eq_getElem?_getD]
theorem list_ext_D {a b : List Nat} (h : a.length = b.length) (k : ∀ i, i < a.length → a.getD i 0 = b.getD i 0) : a = b := by
  refine List.ext_getElem h fun i h1 h2 => ?_
  have := k i h1
  rw [List.getD_eq_getElem?_getD, List.getD_eq_getElem?_getD, List.getElem?_eq_getElem h1, List.getElem?_eq_getElem h2] at this
  exact this
theorem dblE_iff {v : List Nat} {h : Nat} (h2 : 2 * h ≤ v.length) : dblE v h = true ↔ ∀ i, i < h → v.getD (v.length - 1 - i - h) 0 = v.getD (v.length - 1 - i) 0 := by
  unfold dblE
  rw [decide_eq_true_eq]
  constructor
  · intro e i hi
    have e2 : (v.drop (v.length - h)).getD (h - 1 - i) 0 = ((v.take (v.length - h)).drop (v.length - 2 * h)).getD (h - 1 - i) 0 := by rw [e]
    rw [getD_td, getD_td, getD_tk (by omega)] at e2
    rw [show v.length - h + (h - 1 - i) = v.length - 1 - i by omega, show v.length - 2 * h + (h - 1 - i) = v.length - 1 - i - h by omega] at e2
    exact e2.symm
  · intro k
    refine list_ext_D (by simp; omega) fun i hi => ?_
    rw [List.length_drop] at hi
    rw [getD_td, getD_td, getD_tk (by omega)]
    have := k (h - 1 - i) (by omega)
    rw [show v.length - 1 - (h - 1 - i) = v.length - h + i by omega, show v.length - h + i - h = v.length - 2 * h + i by omega] at this
    exact this.symm
theorem hit_iff {w : List Nat} {e p : Nat} (hp : 1 ≤ p) : hit 2 1 false w e p = true ↔ ∀ i, i < p → i + p ≤ e ∧ w.getD (e - i - p) 0 = w.getD (e - i) 0 := by
  unfold hit
  rw [decide_eq_true_eq, least21, show (2 * p ≤ p + al w p (e + 1)) ↔ p ≤ al w p (e + 1) by omega, al_ge w hp]
  constructor
  · intro k i hi
    obtain ⟨k1, k2⟩ := k i hi
    exact ⟨by omega, by simpa using k2⟩
  · intro k i hi
    obtain ⟨k1, k2⟩ := k i hi
    exact ⟨by omega, by simpa using k2⟩
theorem hit_dbl {w : List Nat} {e p : Nat} (hp : 1 ≤ p) (he : e < w.length) (h2 : 2 * p ≤ e + 1) : hit 2 1 false w e p = dblE (w.take (e + 1)) p := by
  have l : (w.take (e + 1)).length = e + 1 := by rw [List.length_take]; omega
  rw [Bool.eq_iff_iff, hit_iff hp, dblE_iff (by rw [l]; exact h2)]
  rw [l]
  constructor
  · intro k i hi
    obtain ⟨k1, k2⟩ := k i hi
    rw [getD_tk (by omega), getD_tk (by omega), Nat.add_sub_cancel]
    exact k2
  · intro k i hi
    have := k i hi
    rw [getD_tk (by omega), getD_tk (by omega), Nat.add_sub_cancel] at this
    exact ⟨by omega, this⟩
theorem hit_far {w : List Nat} {e p : Nat} (hp : 1 ≤ p) (h2 : e + 1 < 2 * p) : hit 2 1 false w e p = false := by
  rw [← Bool.not_eq_true, hit_iff hp]
  intro k
  have := (k (p - 1) (by omega)).1
  omega
theorem findS_short {α : Type} (q : Nat → Option α) {n m : Nat} (hn : n ≤ m) (h : ∀ j, n ≤ j → j < m → q j = none) : (List.range m).findSome? q = (List.range n).findSome? q := by
  obtain ⟨k, rfl⟩ := Nat.exists_eq_add_of_le hn
  rw [List.range_add, List.findSome?_append]
  have : ((List.range k).map (n + ·)).findSome? q = none := by
    rw [List.findSome?_eq_none_iff]
    intro x hx
    obtain ⟨j, hj, rfl⟩ := List.mem_map.mp hx
    exact h _ (by omega) (by have := List.mem_range.mp hj; omega)
  rw [this, Option.or_none]
theorem repE_dbl {w : List Nat} {e : Nat} (he : e < w.length) : repE 2 1 false w e = (List.range ((e + 1) / 2)).findSome? fun j => if dblE (w.take (e + 1)) (j + 1) then some (e, j + 1) else none := by
  unfold repE
  rw [findS_short (n := (e + 1) / 2) _ (by omega) fun j h1 h2 => by rw [hit_far (by omega) (by omega)]; rfl]
  exact findS_congr fun j hj => by rw [hit_dbl (by omega) he (by have := List.mem_range.mp hj; omega)]
theorem repE_none {w : List Nat} {e : Nat} (he : e < w.length) : repE 2 1 false w e = none ↔ efree (w.take (e + 1)) = true := by
  rw [repE_dbl he, List.findSome?_eq_none_iff]
  unfold efree
  rw [show (w.take (e + 1)).length = e + 1 by rw [List.length_take]; omega, Bool.not_eq_true', List.any_eq_false]
  constructor
  · intro k j hj hd
    have := k j hj
    rw [if_pos hd] at this
    cases this
  · intro k j hj
    rw [if_neg (k j hj)]
theorem rep_none {w : List Nat} : rep 2 1 false w = none ↔ ∀ e, e < w.length → efree (w.take (e + 1)) = true := by
  unfold rep
  rw [List.findSome?_eq_none_iff]
  constructor
  · intro k e he
    exact (repE_none he).mp (k e (List.mem_range.mpr he))
  · intro k e he
    exact (repE_none (List.mem_range.mp he)).mpr (k e (List.mem_range.mp he))
theorem double_inner {w : List Nat} (hw : IsW 4 w) (hl : w.length ≤ 100000) {e : Nat} (he : e < w.length) (a0 a3 : Sl) (hb : a3 = .un) :
    (repE 2 1 false w e = none → Nx [1, 2, 3] (b_law_double_2 [.v (.str w), .v (.int ((e + 1 : Nat) : Int)), .un, .un]) (· = [.v (.str w), .un, .un, .un])) ∧
    (∀ p, repE 2 1 false w e = some p → Rt (b_law_double_2 [.v (.str w), .v (.int ((e + 1 : Nat) : Int)), .un, .un]) (.v (tellR 2 1 false p.1 p.2))) := by
  have d1 : opDiv (.int ((e + 1 : Nat) : Int)) (.int 2) = some (.int (((e + 1) / 2 : Nat) : Int)) := by
    rw [opDiv_int (by decide) (by decide)]; rfl
  have key := forL_some (g := .n 2) (ks := [2, 3]) (b := b_law_double_1) (fun _ => [.v (.str w), .v (.int ((e + 1 : Nat) : Int)), .un, .un])
    (fun d => match d with | .int p => if dblE (w.take (e + 1)) p.toNat then some (.v (tellR 2 1 false e p.toNat)) else none | _ => none) (rng ((1 : Nat) : Int) ((1 + (e + 1) / 2 : Nat) : Int)) (fun j x hx => by
      obtain ⟨rfl, hj⟩ := rng_get hx
      obtain ⟨h, hh⟩ : ∃ h, h = j + 1 := ⟨_, rfl⟩
      rw [show ((1 : Nat) : Int) + (j : Int) = (h : Int) by omega]
      dsimp only
      rw [Int.toNat_natCast]
      have m1 : opMul (.int 2) (.int (h : Int)) = some (.int (2 * (h : Int))) := opMul_b (by decide) (by omega)
      have i2 : ((e + 1 : Nat) : Int) - 2 * (h : Int) = ((e + 1 - 2 * h : Nat) : Int) := by omega
      have i3 : ((e + 1 - 2 * h : Nat) : Int) + (h : Int) = ((e + 1 - h : Nat) : Int) := by omega
      have c1 : opCut (.str w) (some ((e + 1 - 2 * h : Nat) : Int)) (some ((e + 1 - h : Nat) : Int)) = some (.str ((w.take (e + 1 - h)).drop (e + 1 - 2 * h))) := by rw [opCut_str (by unfold line; omega), cut_mid]
      have c2 : opCut (.str w) (some ((e + 1 - h : Nat) : Int)) (some ((e + 1 : Nat) : Int)) = some (.str ((w.take (e + 1)).drop (e + 1 - h))) := by rw [opCut_str (by unfold line; omega), cut_mid]
      have q := opEq_w (IsW.drop (IsW.take hw (e + 1 - h)) (e + 1 - 2 * h)) (IsW.drop (IsW.take hw (e + 1)) (e + 1 - h))
      have l : (w.take (e + 1)).length = e + 1 := by rw [List.length_take]; omega
      have tt : (w.take (e + 1)).take (e + 1 - h) = w.take (e + 1 - h) := by rw [List.take_take, Nat.min_eq_left (by omega)]
      have ds : dblE (w.take (e + 1)) h = decide ((w.take (e + 1 - h)).drop (e + 1 - 2 * h) = (w.take (e + 1)).drop (e + 1 - h)) := by
        unfold dblE
        rw [l, tt]
        exact decide_eq_decide.mpr eq_comm
      rw [ds]
      unfold tellR
      rw [least21]
      generalize (w.take (e + 1)).drop (e + 1 - h) = a at *
      generalize (w.take (e + 1 - h)).drop (e + 1 - 2 * h) = b at *
      generalize ((e + 1 : Nat) : Int) = E1 at *
      generalize ((e + 1 - h : Nat) : Int) = E2 at *
      generalize ((e + 1 - 2 * h : Nat) : Int) = E3 at *
      by_cases z : b = a
      · rw [decide_eq_true z] at q ⊢
        refine ⟨fun y => by simp at y, fun r hr => ?_⟩
        simp only [if_true, Option.some.injEq] at hr
        subst hr
        simp -implicitDefEqProofs [b_law_double_1, i2, i3, m1, c1, c2, q, line]
      · rw [decide_eq_false z] at q ⊢
        refine ⟨fun _ => ?_, fun r hr => (by simp at hr)⟩
        simp -implicitDefEqProofs [b_law_double_1, i2, i3, m1, c1, c2, q])
  rw [findS_range (q := fun j => if dblE (w.take (e + 1)) (j + 1) then some (Sl.v (tellR 2 1 false e (j + 1))) else none) (h := fun j _ => by simp only [Int.toNat_natCast, Nat.add_comm 1 j])] at key
  have mp : (List.range ((e + 1) / 2)).findSome? (fun j => if dblE (w.take (e + 1)) (j + 1) then some (Sl.v (tellR 2 1 false e (j + 1))) else none) = (repE 2 1 false w e).map fun p => .v (tellR 2 1 false p.1 p.2) := by
    rw [repE_dbl he, ← findS_map]
    exact findS_congr fun j _ => by
      by_cases h : dblE (w.take (e + 1)) (j + 1) = true
      · rw [if_pos h, if_pos h]; rfl
      · rw [if_neg h, if_neg h]; rfl
  rw [mp] at key
  obtain ⟨k1, k2⟩ := key
  have r1 := inR_of (show (-1000000000 : Int) ≤ 1 by omega) (by omega)
  have r2 := inR_of (show (-1000000000 : Int) ≤ (((e + 1) / 2 : Nat) : Int) + 1 by omega) (by omega)
  rw [show ((1 + (e + 1) / 2 : Nat) : Int) = (((e + 1) / 2 : Nat) : Int) + 1 by omega, show ((1 : Nat) : Int) = 1 from rfl] at k1 k2
  generalize (e + 1) / 2 = n2 at *
  generalize ((e + 1 : Nat) : Int) = e9 at *
  constructor
  · intro z
    rw [z] at k1
    simp -implicitDefEqProofs [b_law_double_2, r1, r2, d1, k1 rfl]
  · intro p z
    rw [z] at k2
    obtain ⟨ρ', k3⟩ := k2 _ rfl
    simp -implicitDefEqProofs [b_law_double_2, r1, r2, d1, k3]
theorem double_ok {w : List Nat} (hw : IsW 4 w) (hl : w.length ≤ 100000) : s_law_double [.v (.str w)] = .ok (.v (repD 2 1 false (rep 2 1 false w))) [.v (.str w)] := by
  have e1 : opLen (.str w) = some (.int w.length) := opLen_str (by unfold line; omega)
  have r1 := inR_of (show (-1000000000 : Int) ≤ 1 by omega) (by omega)
  have r2 := inR_of (show (-1000000000 : Int) ≤ (w.length : Int) + 1 by omega) (by omega)
  have key := forL_some (g := .n 1) (ks := [1, 2, 3]) (b := b_law_double_2) (fun _ => [.v (.str w), .un, .un, .un])
    (fun d => match d with | .int e => (repE 2 1 false w (e.toNat - 1)).map fun p => .v (tellR 2 1 false p.1 p.2) | _ => none) (rng ((1 : Nat) : Int) ((1 + w.length : Nat) : Int)) (fun j x hx => by
      obtain ⟨rfl, hj⟩ := rng_get hx
      rw [show ((1 : Nat) : Int) + (j : Int) = ((j + 1 : Nat) : Int) by omega]
      dsimp only
      rw [Int.toNat_natCast, Nat.add_sub_cancel]
      obtain ⟨k1, k2⟩ := double_inner hw hl (e := j) (by omega) .un .un rfl
      refine ⟨fun z => ?_, fun r hr => ?_⟩
      · have k := k1 (by cases e : repE 2 1 false w j with
          | none => rfl
          | some p => rw [e] at z; cases z)
        generalize ((j + 1 : Nat) : Int) = j1 at *
        simpa using k
      · cases e : repE 2 1 false w j with
        | none => rw [e] at hr; cases hr
        | some p =>
          rw [e] at hr
          obtain rfl := Option.some.inj hr
          have k := k2 p e
          generalize ((j + 1 : Nat) : Int) = j1 at *
          simpa using k)
  rw [findS_range (q := fun e => (repE 2 1 false w e).map fun p => .v (tellR 2 1 false p.1 p.2)) (h := fun j _ => by simp only [Int.toNat_natCast, Nat.add_sub_cancel_left])] at key
  rw [findS_map] at key
  rw [show (List.range w.length).findSome? (repE 2 1 false w) = rep 2 1 false w from rfl] at key
  obtain ⟨k1, k2⟩ := key
  rw [show ((1 + w.length : Nat) : Int) = (w.length : Int) + 1 by omega, show ((1 : Nat) : Int) = 1 from rfl] at k1 k2
  rw [s_law_double, run_ap (by rfl)]
  unfold repD
  generalize rep 2 1 false w = y at *
  cases y with
  | none => simp -implicitDefEqProofs [g_law_double, e1, r1, r2, k1 rfl, lent]
  | some p =>
    obtain ⟨ρ', k3⟩ := k2 _ rfl
    simp -implicitDefEqProofs [g_law_double, e1, r1, r2, k3, lent]
theorem ne_nil_letters {cs : List Nat} (h : IsW 4 cs) : opNe (.lst (cs.map fun c => D.str [c])) (.lst []) = some (.bl (!cs.isEmpty)) := by
  have h1 : D.lv 12 (.lst (cs.map fun c => D.str [c])) = true := lv_lst fun x hx => by
    obtain ⟨c, hc, rfl⟩ := List.mem_map.mp hx
    exact lv_str (IsW.one (h c hc).1 (h c hc).2) (by decide)
  rw [opNe, h1, show D.lv 12 (.lst []) = true from lv_lst fun x hx => by cases hx]
  cases cs with
  | nil => simp [D.eqv, D.eqvs]
  | cons a r => simp [D.eqv, D.eqvs]
/-! words drawn letter by letter, none of which ends a double, by a number -/
def FreeW (w : List Nat) : Prop := ∀ e, e < w.length → efree (w.take (e + 1)) = true
theorem FreeW.nil : FreeW [] := fun e he => by cases he
theorem FreeW.snoc {w : List Nat} {c : Nat} (h : FreeW w) (hc : efree (w ++ [c]) = true) : FreeW (w ++ [c]) := fun e he => by
  rw [List.length_append, List.length_singleton] at he
  by_cases z : e < w.length
  · rw [List.take_append_of_le_length (by omega)]; exact h e z
  · rw [List.take_of_length_le (by simp; omega)]; exact hc
theorem blk {w : List Nat} {c h : Nat} (h1 : 1 ≤ h) (h2 : 2 * h ≤ w.length + 1) (hd : dblE (w ++ [c]) h = true) : w.getD (w.length - h) 0 = c ∧ (2 ≤ h → w.getD (w.length - 1 - h) 0 = w.getD (w.length - 1) 0) := by
  have l : (w ++ [c]).length = w.length + 1 := by simp
  rw [dblE_iff (by rw [l]; exact h2), l] at hd
  have ga : ∀ i, i < w.length → (w ++ [c]).getD i 0 = w.getD i 0 := fun i hi => by
    rw [List.getD_eq_getElem?_getD, List.getElem?_append_left hi, ← List.getD_eq_getElem?_getD]
  have gb : (w ++ [c]).getD w.length 0 = c := by simp
  refine ⟨?_, fun z => ?_⟩
  · have := hd 0 (by omega)
    rw [show w.length + 1 - 1 - 0 = w.length by omega, gb, ga _ (by omega)] at this
    exact this
  · have := hd 1 (by omega)
    rw [show w.length + 1 - 1 - 1 = w.length - 1 by omega, ga _ (by omega), ga _ (by omega)] at this
    exact this
theorem pick3 (x y z : Nat) : ∃ c, 97 ≤ c ∧ c < 97 + 4 ∧ c ≠ x ∧ c ≠ y ∧ c ≠ z := by
  by_cases h1 : 97 ≠ x ∧ 97 ≠ y ∧ 97 ≠ z
  · exact ⟨97, by omega, by omega, h1⟩
  · by_cases h2 : 98 ≠ x ∧ 98 ≠ y ∧ 98 ≠ z
    · exact ⟨98, by omega, by omega, h2⟩
    · by_cases h3 : 99 ≠ x ∧ 99 ≠ y ∧ 99 ≠ z
      · exact ⟨99, by omega, by omega, h3⟩
      · exact ⟨100, by omega, by omega, by omega, by omega, by omega⟩
theorem pick2 (x y : Nat) : ∃ c, 97 ≤ c ∧ c < 97 + 3 ∧ c ≠ x ∧ c ≠ y := by
  by_cases h1 : 97 ≠ x ∧ 97 ≠ y
  · exact ⟨97, by omega, by omega, h1⟩
  · by_cases h2 : 98 ≠ x ∧ 98 ≠ y
    · exact ⟨98, by omega, by omega, h2⟩
    · exact ⟨99, by omega, by omega, by omega, by omega⟩
def Ext (m : Nat) (w : List Nat) : Prop := ∃ c, 97 ≤ c ∧ c < 97 + m ∧ efree (w ++ [c]) = true
theorem efree_of {w : List Nat} {c : Nat} (h : ∀ h, 1 ≤ h → 2 * h ≤ w.length + 1 → ¬ (w.getD (w.length - h) 0 = c ∧ (2 ≤ h → w.getD (w.length - 1 - h) 0 = w.getD (w.length - 1) 0))) : efree (w ++ [c]) = true := by
  unfold efree
  rw [Bool.not_eq_true', List.any_eq_false]
  intro j hj hd
  have := List.mem_range.mp hj
  rw [List.length_append, List.length_singleton] at this
  exact h (j + 1) (by omega) (by omega) (blk (by omega) (by omega) hd)
theorem ext4 {w : List Nat} (hl : w.length ≤ 8) : Ext 4 w := by
  obtain ⟨n, hn⟩ : ∃ n, n = w.length := ⟨_, rfl⟩
  by_cases a : w.getD (n - 1) 0 = w.getD (n - 3) 0
  · obtain ⟨c, c1, c2, c3, c4, c5⟩ := pick3 (w.getD (n - 1) 0) (w.getD (n - 2) 0) (w.getD (n - 4) 0)
    refine ⟨c, c1, c2, efree_of fun h h1 h2 z => ?_⟩
    rw [← hn] at z h2
    have h3 : h = 1 ∨ h = 2 ∨ h = 3 ∨ h = 4 := by omega
    rcases h3 with rfl | rfl | rfl | rfl
    · exact c3 z.1.symm
    · exact c4 z.1.symm
    · exact c3 (a.trans z.1).symm
    · exact c5 z.1.symm
  · obtain ⟨c, c1, c2, c3, c4, c5⟩ := pick3 (w.getD (n - 1) 0) (w.getD (n - 3) 0) (w.getD (n - 4) 0)
    refine ⟨c, c1, c2, efree_of fun h h1 h2 z => ?_⟩
    rw [← hn] at z h2
    have h3 : h = 1 ∨ h = 2 ∨ h = 3 ∨ h = 4 := by omega
    rcases h3 with rfl | rfl | rfl | rfl
    · exact c3 z.1.symm
    · have := z.2 (by omega)
      rw [show n - 1 - 2 = n - 3 by omega] at this
      exact a this.symm
    · exact c4 z.1.symm
    · exact c5 z.1.symm
theorem ext3 {w : List Nat} (hl : w.length ≤ 4) : Ext 3 w := by
  obtain ⟨c, c1, c2, c3, c4⟩ := pick2 (w.getD (w.length - 1) 0) (w.getD (w.length - 2) 0)
  refine ⟨c, c1, c2, efree_of fun h h1 h2 z => ?_⟩
  have h3 : h = 1 ∨ h = 2 := by omega
  rcases h3 with rfl | rfl
  · exact c3 z.1.symm
  · exact c4 z.1.symm
theorem dfree_body {ds : List Int} (hd : Ok31 ds) {w : List Nat} {m : Nat} (hm1 : 1 ≤ m) (hm2 : m ≤ 4) (hw : IsW m w) (hl : w.length ≤ 500) (kk : Nat) (a2 a4 : Sl) :
    ∃ w', IsW m w' ∧ (FreeW w → FreeW w') ∧ w'.length ≤ w.length + 1 ∧ w.length ≤ w'.length ∧ (Ext m w → w'.length = w.length + 1) ∧ Nx [4, 5, 6] (b_law_free_2 [.io kk (drD ds), .v (.int (m : Int)), a2, .v (.str w), a4, .un, .un, .un, .un]) (· = [.io kk (drD ds.dropLast), .v (.int (m : Int)), a2, .v (.str w'), .un, .un, .un, .un, .un]) := by
  have nx := next_ok ds 0
  generalize nxv ds = y at *
  generalize ds.dropLast = es at *
  have r1 := inR_of (show (-1000000000 : Int) ≤ (m : Int) by omega) (by omega)
  obtain ⟨ls, hls⟩ : ∃ ls : List Nat, ls = (List.range m).map fun k : Nat => 97 + ((y + (k : Int)) % (m : Int)).toNat := ⟨_, rfl⟩
  have hlw : IsW m ls := fun c hc => by
    rw [hls] at hc
    obtain ⟨k, _, rfl⟩ := List.mem_map.mp hc
    have h1 := Int.emod_nonneg (y + (k : Int)) (show (m : Int) ≠ 0 by omega)
    have h2 := Int.emod_lt_of_pos (y + (k : Int)) (show (0 : Int) < m by omega)
    omega
  have c1 := eComp_go (g := .n 7) (ws := [7]) (it := iR1 (eV 1)) (f := x_law_free_1) (ρ := [.io kk (drD es), .v (.int (m : Int)), a2, .v (.str w), a4, .v (.int y), .un, .un, .un]) (fun d => match d with | .int k => .str [97 + ((y + k) % (m : Int)).toNat] | d => d) (rng 0 (m : Int)) (by simp [r1]) (fun x hx => by
    obtain ⟨i, hy, h0, h1⟩ := rng_mem hx
    subst hy
    have e6 : opMod (.int (y + i)) (.int (m : Int)) = some (.int ((y + i) % m)) := opMod_int (by omega)
    have h1 := Int.emod_nonneg (y + i) (show (m : Int) ≠ 0 by omega)
    have h2 := Int.emod_lt_of_pos (y + i) (show (0 : Int) < m by omega)
    have e7 := abcd_at (i := (y + i) % (m : Int)) h1 (by omega)
    dsimp only
    simp -implicitDefEqProofs [x_law_free_1, e6, e7]) (by rw [rng_len]; unfold line; omega)
  have f1 : (rng 0 (m : Int)).map (fun d => match d with | .int k => D.str [97 + ((y + k) % (m : Int)).toNat] | d => d) = ls.map fun c => D.str [c] := by
    rw [show (0 : Int) = ((0 : Nat) : Int) from rfl, rng_nat, List.map_map, hls, List.map_map, Nat.sub_zero]
    refine List.map_congr_left fun k _ => ?_
    simp
  rw [f1] at c1
  obtain ⟨cs, hcs⟩ : ∃ cs : List Nat, cs = ls.filter fun c => efree (w ++ [c]) := ⟨_, rfl⟩
  have hcw : IsW m cs := fun c hc => hlw c (by rw [hcs] at hc; exact (List.mem_filter.mp hc).1)
  have hce : ∀ c ∈ cs, efree (w ++ [c]) = true := fun c hc => by rw [hcs] at hc; exact (List.mem_filter.mp hc).2
  have hall : ∀ c, 97 ≤ c → c < 97 + m → c ∈ ls := fun c h1 h2 => by
    rw [hls, List.mem_map]
    have g1 := Int.emod_nonneg ((c : Int) - 97 - y) (show (m : Int) ≠ 0 by omega)
    have g2 := Int.emod_lt_of_pos ((c : Int) - 97 - y) (show (0 : Int) < m by omega)
    refine ⟨(((c : Int) - 97 - y) % (m : Int)).toNat, List.mem_range.mpr (by omega), ?_⟩
    rw [Int.toNat_of_nonneg g1, Int.add_emod_emod, show y + ((c : Int) - 97 - y) = ((c - 97 : Nat) : Int) by omega, Int.emod_eq_of_lt (by omega) (by omega)]
    omega
  have c2 := eComp_if (g := .n 8) (ws := [8]) (it := iE (eV 6)) (c := val (eCall s_law_ends_free (aCons (e2 opAdd (eV 3) (eV 8)) aNil))) (f := eV 8) (ρ := [.io kk (drD es), .v (.int (m : Int)), a2, .v (.str w), a4, .v (.int y), .v (.lst (ls.map fun c => D.str [c])), .un, .un])
    (fun d => match d with | .str s => efree (w ++ s) | _ => false) (fun d => d) (ls.map fun c => D.str [c]) (by simp) (fun x hx => by
      obtain ⟨c, hc, rfl⟩ := List.mem_map.mp hx
      have hc2 := hlw c hc
      have ad : opAdd (.str w) (.str [c]) = some (.str (w ++ [c])) := opAdd_str (by unfold line; simp; omega)
      have ef := ends_free_ok (w := w ++ [c]) (IsW.up (IsW.app hw (IsW.one hc2.1 hc2.2)) hm2) (by simp; omega)
      dsimp only
      generalize efree (w ++ [c]) = z at *
      generalize w ++ [c] = wc at *
      refine ⟨?_, fun h => ?_⟩
      · simp -implicitDefEqProofs [ad, ef]
      · simp -implicitDefEqProofs [ad, ef, h]) (by rw [List.length_map, hls, List.length_map, List.length_range]; unfold line; omega)
  have f2 : ((ls.map fun c => D.str [c]).filter (fun d => match d with | .str s => efree (w ++ s) | _ => false)).map (fun d => d) = cs.map fun c => D.str [c] := by
    rw [List.map_id', List.filter_map, hcs]; rfl
  rw [f2] at c2
  have ne := ne_nil_letters (IsW.up hcw hm2)
  cases cs with
  | nil =>
    refine ⟨w, hw, fun h => h, by omega, Nat.le_refl _, fun ⟨c, h3, h4, h5⟩ => (by
      have : c ∈ ([] : List Nat) := by rw [hcs]; exact List.mem_filter.mpr ⟨hall c h3 h4, h5⟩
      cases this), ?_⟩
    simp only [List.map_nil, List.isEmpty_nil, Bool.not_true] at ne c2
    generalize ls.map (fun c => D.str [c]) = LS at *
    simp -implicitDefEqProofs [b_law_free_2, nx, c1, c2, ne]
  | cons c r =>
    have hc2 := hcw c List.mem_cons_self
    have ad : opAdd (.str w) (.str [c]) = some (.str (w ++ [c])) := opAdd_str (by unfold line; simp; omega)
    refine ⟨w ++ [c], IsW.app hw (IsW.one hc2.1 hc2.2), fun h => h.snoc (hce c List.mem_cons_self), by simp, by simp, fun _ => by simp, ?_⟩
    rw [List.map_cons] at ne c2
    rw [List.isEmpty_cons, Bool.not_false] at ne
    generalize ls.map (fun c => D.str [c]) = LS at *
    generalize r.map (fun c => D.str [c]) = RS at *
    generalize w ++ [c] = wc at *
    simp -implicitDefEqProofs [b_law_free_2, nx, c1, c2, ne, ad]
theorem dfree_ok (ds0 : List Int) (h : Ok31 ds0) (kk m size u : Nat) (hm1 : 1 ≤ m) (hm2 : m ≤ 4) (hs : size ≤ 400) (hu : ∀ w : List Nat, w.length < u → Ext m w) : ∃ w ds', IsW m w ∧ FreeW w ∧ w.length ≤ size ∧ min u size ≤ w.length ∧ Ok31 ds' ∧
    s_law_free [.io kk (drD ds0), .v (.int (m : Int)), .v (.int (size : Int))] = .ok (.v (.str w)) [.io kk (drD ds'), .v (.int (m : Int)), .v (.int (size : Int))] := by
  have r1 := inR_of (show (-1000000000 : Int) ≤ (size : Int) by omega) (by omega)
  obtain ⟨I, hI0⟩ : ∃ I : Nat → Env → Prop, ∀ i ρ, I i ρ ↔ ∃ (w : List Nat) (ds : List Int), Ok31 ds ∧ IsW m w ∧ FreeW w ∧ w.length ≤ i ∧ min u i ≤ w.length ∧ ρ = [.io kk (drD ds), .v (.int (m : Int)), .v (.int (size : Int)), .v (.str w), .un, .un, .un, .un, .un] := ⟨_, fun _ _ => Iff.rfl⟩
  have ⟨k1, _⟩ := forL_go (g := .n 4) (ks := [4, 5, 6]) (b := b_law_free_2) I (fun _ _ => none) (rng 0 (size : Int)) 0 [.io kk (drD ds0), .v (.int (m : Int)), .v (.int (size : Int)), .v (.str []), .un, .un, .un, .un, .un] ((hI0 _ _).mpr ⟨[], ds0, h, IsW.nil, FreeW.nil, Nat.le_refl _, by simp, rfl⟩) (fun j x ρ hx hI => ⟨fun _ => by
    obtain ⟨w, ds, hd, hw, hf, hl, hl2, rfl⟩ := (hI0 _ _).mp hI
    obtain ⟨hx1, hb⟩ := rng_get0 hx
    subst hx1
    rw [Nat.zero_add] at hl hl2 ⊢
    obtain ⟨w', g1, g2, g3, g4, g5, h3⟩ := dfree_body hd hm1 hm2 hw (by omega) kk (.v (.int (size : Int))) (.v (.int (j : Int)))
    obtain ⟨ρ2, h4, h5⟩ := h3.eq
    refine ⟨ρ2, h4, ?_⟩
    rw [h5]
    refine (hI0 _ _).mpr ⟨w', ds.dropLast, Ok31.init hd, g1, g2 hf, by omega, ?_, rfl⟩
    by_cases z : w.length < u
    · have := g5 (hu w z); omega
    · omega, fun r hr => by cases hr⟩)
  obtain ⟨ρ', k1, k2⟩ := k1 fun _ _ _ => rfl
  obtain ⟨w, ds', hd', hw, hf, hl, hl2, rfl⟩ := (hI0 _ _).mp k2
  rw [rng_len] at hl hl2
  refine ⟨w, ds', hw, hf, by omega, by omega, hd', ?_⟩
  rw [s_law_free, run_ap (by rfl)]
  simp -implicitDefEqProofs [g_law_free, r1, k1, lent]
theorem gones_len (m i : Nat) : (gones m (i + 1)).length = (gones m i).length + (frees m (i + 1)).length := by rw [gones, List.length_append]
theorem keep_loop {m : Nat} {rs : List (List Nat)} (hr : IsR m 12 rs) (hm : m ≤ 4) : ∀ (k i : Nat), (gones m i).length ≤ 800 → (frees m i).length ≤ 800 → i + k ≤ 99 →
    (oc rs m i k = .keep → forL (.n 3) [3, 4, 5] b_keeps_2 (items i k) [.v (.tup (rs.map D.str)), .o (.lst ((gones m i).map D.str)), .v (.lst ((frees m i).map D.str)), .un, .un, .un] = .ok .nx [.v (.tup (rs.map D.str)), .o (.lst ((gones m (i + k)).map D.str)), .v (.lst ((frees m (i + k)).map D.str)), .un, .un, .un]) ∧
    (∀ x, oc rs m i k = .brk x → ∃ ρ', forL (.n 3) [3, 4, 5] b_keeps_2 (items i k) [.v (.tup (rs.map D.str)), .o (.lst ((gones m i).map D.str)), .v (.lst ((frees m i).map D.str)), .un, .un, .un] = .ok (.ret (.v (tellB x))) ρ')
  | 0, i, _, _, _ => ⟨fun _ => by simp [items, forL], fun _ h => (by cases h)⟩
  | k + 1, i, hg, hl, hk => by
    have lo := made_ok hm (n := i) (by omega) (frees_ok hm i) (by omega)
    rw [show longer m (frees m i) = frees m (i + 1) from rfl] at lo
    have ll := longer_len m (frees m i)
    rw [show longer m (frees m i) = frees m (i + 1) from rfl] at ll
    have gl := gones_len m i
    have le : opLen (.lst ((frees m (i + 1)).map D.str)) = some (.int (((frees m (i + 1)).length : Nat) : Int)) := by rw [opLen, List.length_map]
    have lg : opLen (.lst ((gones m i).map D.str)) = some (.int (((gones m i).length : Nat) : Int)) := by rw [opLen, List.length_map]
    have lr : opLen (.tup (rs.map D.str)) = some (.int (m : Int)) := by rw [opLen, List.length_map, hr.len]
    have ih := keep_loop hr hm k (i + 1)
    rw [show i + 1 + k = i + (k + 1) by omega] at ih
    obtain ⟨n1, n2⟩ := keep_inner hr hm (n := i + 1) (by omega) (frees_ok hm (i + 1)) (.o (.lst ((gones m i).map D.str))) (.v (.lst ((frees m (i + 1)).map D.str))) (.v (.int (i : Int)))
    rw [items_succ, oc]
    by_cases c : 800 < (gones m (i + 1)).length
    · rw [if_pos c]
      exact ⟨fun h => (by cases h), fun _ h => (by cases h)⟩
    · rw [if_neg c]
      have c2 : ¬ (800 : Int) < (((gones m i).length : Nat) : Int) + (((frees m (i + 1)).length : Nat) : Int) := by omega
      have ex : (gones m i).length + (frees m (i + 1)).length ≤ 16777216 := by omega
      cases e : chk rs (frees m (i + 1)) with
      | some x =>
        obtain ⟨ρ2, n3⟩ := n2 x e
        refine ⟨fun h => (by cases h), fun y hy => ?_⟩
        obtain rfl : x = y := by injection hy
        generalize (((frees m (i + 1)).length : Nat) : Int) = q at *
        generalize (((gones m i).length : Nat) : Int) = q2 at *
        generalize (frees m i).map D.str = A at *
        generalize (frees m (i + 1)).map D.str = B at *
        generalize (gones m i).map D.str = G at *
        generalize rs.map D.str = R at *
        refine ⟨ρ2, forL_ret (ρ1 := [.v (.tup R), .o (.lst G), .v (.lst A), .v (.int (i : Int)), .un, .un]) rfl ?_⟩
        simp -implicitDefEqProofs [b_keeps_2, lo, le, lg, lr, c2, c_MOST_LOOKED, Res.bind, Sl.frz, D.flat, n3]
      | none =>
        have n3 := n1 e
        have ih := ih (by omega) (by omega) (by omega)
        have bd : b_keeps_2 [.v (.tup (rs.map D.str)), .o (.lst ((gones m i).map D.str)), .v (.lst ((frees m i).map D.str)), .v (.int (i : Int)), .un, .un] = .ok .nx [.v (.tup (rs.map D.str)), .o (.lst ((gones m (i + 1)).map D.str)), .v (.lst ((frees m (i + 1)).map D.str)), .v (.int (i : Int)), .un, .un] := by
          have hx : ((gones m i).map D.str).length + ((frees m (i + 1)).map D.str).length ≤ 16777216 := by rw [List.length_map, List.length_map]; exact ex
          have hg2 : (gones m (i + 1)).map D.str = (gones m i).map D.str ++ (frees m (i + 1)).map D.str := by rw [gones, List.map_append]
          rw [hg2]
          clear ih gl ll
          generalize (((frees m (i + 1)).length : Nat) : Int) = q at *
          generalize (((gones m i).length : Nat) : Int) = q2 at *
          generalize (frees m i).map D.str = A at *
          generalize (frees m (i + 1)).map D.str = B at *
          generalize (gones m i).map D.str = G at *
          generalize rs.map D.str = R at *
          simp -implicitDefEqProofs [b_keeps_2, lo, le, lg, lr, c2, c_MOST_LOOKED, Sl.frz, D.flat, n3, chg, hExtend, line, hx]
        rw [forL_nx (ρ1 := [.v (.tup (rs.map D.str)), .o (.lst ((gones m i).map D.str)), .v (.lst ((frees m i).map D.str)), .v (.int (i : Int)), .un, .un]) rfl bd]
        exact ih
theorem gones_mono (m : Nat) : ∀ (k i : Nat), (gones m i).length ≤ (gones m (i + k)).length
  | 0, _ => Nat.le_refl _
  | k + 1, i => by
    have := gones_mono m k i
    have h := gones_len m (i + k)
    rw [show i + (k + 1) = i + k + 1 by omega]
    omega
theorem oc_great {rs : List (List Nat)} {m : Nat} : ∀ (k i : Nat), oc rs m i k = .great → 800 < (gones m (i + k)).length
  | 0, i, h => by cases h
  | k + 1, i, h => by
    rw [oc] at h
    by_cases z : 800 < (gones m (i + 1)).length
    · have := gones_mono m k (i + 1)
      rw [show i + 1 + k = i + (k + 1) by omega] at this
      omega
    · rw [if_neg z] at h
      cases c : chk rs (frees m (i + 1)) with
      | some x => rw [c] at h; cases h
      | none =>
        rw [c] at h
        have := oc_great k (i + 1) h
        rwa [show i + 1 + k = i + (k + 1) by omega] at this
theorem keeps_lens {m b : Nat} {rs : List (List Nat)} (hr : IsR m b rs) (hm : m ≤ 4) (hb : b ≤ 1000) : eComp (.n 4) [4] (iE (eV 0)) none (e1 opLen (eV 4)) [.v (.tup (rs.map D.str)), .un, .un, .un, .un, .un] = .ok (.lst (lensD rs)) [.v (.tup (rs.map D.str)), .un, .un, .un, .un, .un] := by
  have c1 := eComp_go (g := .n 4) (ws := [4]) (it := iE (eV 0)) (f := e1 opLen (eV 4)) (ρ := [.v (.tup (rs.map D.str)), .un, .un, .un, .un, .un]) lenF (rs.map D.str) (by simp) (fun x hx => by
    obtain ⟨w, hw, rfl⟩ := List.mem_map.mp hx
    have h1 := (hr.ok w hw).2.2
    have h2 : opLen (.str w) = some (.int w.length) := opLen_str (by unfold line; omega)
    simp -implicitDefEqProofs [h2, lenF_s]) (by rw [List.length_map, hr.len]; unfold line; omega)
  rwa [lens_F] at c1
theorem looked_le {m : Nat} {rs : List (List Nat)} (hr : IsR m 12 rs) : looked rs ≤ 11 := by
  have h1 : mxl rs ≤ 12 := mxl_le fun w hw => (hr.ok w hw).2.2
  have h2 := Nat.div_le_self (mxl rs - 4) (mnl rs)
  unfold looked
  omega
theorem keeps_ok {m : Nat} {rs : List (List Nat)} (hr : IsR m 12 rs) (hm : m ≤ 4) (hm1 : 1 ≤ m) :
    (oc rs m 0 (looked rs) = .keep → s_keeps [.v (.tup (rs.map D.str))] = .ok (.v (.tup [.str [107, 101, 101, 112, 115], .lst ((gones m (looked rs)).map D.str)])) [.v (.tup (rs.map D.str))]) ∧
    (∀ x, oc rs m 0 (looked rs) = .brk x → s_keeps [.v (.tup (rs.map D.str))] = .ok (.v (tellB x)) [.v (.tup (rs.map D.str))]) := by
  have c1 := keeps_lens hr hm (by decide)
  have mx := opMax_lens (ws := rs) (by rw [hr.len]; exact hm1)
  have h1 : mxl rs ≤ 12 := mxl_le fun w hw => (hr.ok w hw).2.2
  have h2 : ¬ (12 : Int) < (mxl rs : Int) := by omega
  have lo := looked_ok hr hm hm1 (by decide)
  have lk := looked_le hr
  have r1 := inR_of (show (-1000000000 : Int) ≤ (looked rs : Int) by omega) (by omega)
  have it := items_rng (looked rs)
  have key := keep_loop hr hm (looked rs) 0 (by simp [gones]) (by simp [frees]) (by omega)
  rw [Nat.zero_add, ← it, show (frees m 0).map D.str = [.str []] from rfl, show (gones m 0).map D.str = [] from rfl] at key
  obtain ⟨k1, k3⟩ := key
  generalize lensD rs = L at *
  generalize (mxl rs : Int) = M at *
  generalize looked rs = n at *
  refine ⟨fun z => ?_, fun x z => ?_⟩
  · have k := k1 z
    generalize rs.map D.str = R at *
    generalize (gones m n).map D.str = G at *
    rw [s_keeps, run_ap (by rfl)]
    simp -implicitDefEqProofs [g_keeps, c1, mx, h2, c_MOST_WORD_keeping, lent, lo, r1, k, line, frz1, Sl.frz]
  · obtain ⟨ρ', k⟩ := k3 x z
    generalize rs.map D.str = R at *
    generalize tellB x = B at *
    rw [s_keeps, run_ap (by rfl)]
    simp -implicitDefEqProofs [g_keeps, c1, mx, h2, c_MOST_WORD_keeping, lent, lo, r1, k, line]
/-! what keeps short words free of doubles keeps all -/
def SF (w : List Nat) : Prop := ∀ p x s, w = p ++ (x ++ (x ++ s)) → x = []
def im (H : Nat → List Nat) (w : List Nat) : List Nat := (w.map H).flatten
theorem im_nil (H : Nat → List Nat) : im H [] = [] := rfl
theorem im_cons (H : Nat → List Nat) (a : Nat) (w : List Nat) : im H (a :: w) = H a ++ im H w := rfl
theorem im_app (H : Nat → List Nat) (v w : List Nat) : im H (v ++ w) = im H v ++ im H w := by unfold im; rw [List.map_append, List.flatten_append]
theorem SF.adj {p : List Nat} {a b : Nat} {s : List Nat} (h : SF (p ++ a :: b :: s)) : a ≠ b := fun e => by
  subst e
  have := h p [a] s rfl
  cases this
theorem SF.mid {p w s : List Nat} (h : SF (p ++ (w ++ s))) : SF w := fun p' x s' e => h (p ++ p') x (s' ++ s) (by rw [e]; simp)
structure Ok3 (H : Nat → List Nat) (al : Nat → Prop) : Prop where
  ne : ∀ a, al a → H a ≠ []
  two : ∀ a b, al a → al b → a ≠ b → SF (H a ++ H b)
  three : ∀ a b c, al a → al b → al c → a ≠ b → b ≠ c → SF (H a ++ (H b ++ H c))
section
variable {H : Nat → List Nat} {al : Nat → Prop} {a b c d : Nat} {α β y q s r : List Nat}
theorem Ok3.t1 (K : Ok3 H al) (ha : al a) (hb : al b) (e1 : H a = α ++ y) (e2 : H b = y ++ β) (hy : y ≠ []) : a = b := by
  refine Decidable.byContradiction fun n => hy (K.two a b ha hb n α y β ?_)
  rw [e1, e2]; simp
theorem Ok3.t2 (K : Ok3 H al) (ha : al a) (hb : al b) (n : a ≠ b) (e1 : H a = α ++ y) (e2 : H a = y ++ (H b ++ β)) : False := by
  have := K.three a b a ha hb ha n (Ne.symm n) α (y ++ H b) β (by
    conv => lhs; rw [e2]; 
    rw [← e2]
    conv => lhs; arg 1; rw [e1]
    conv => lhs; arg 2; arg 2; rw [e2]
    simp)
  exact K.ne b hb (List.append_eq_nil_iff.mp this).2
theorem Ok3.t3 (K : Ok3 H al) (ha : al a) (hd : al d) (n : a ≠ d) (e1 : H a = α ++ (H d ++ y)) (e2 : H a = y ++ r) : False := by
  have := K.three a d a ha hd ha n (Ne.symm n) α (H d ++ y) r (by
    conv => lhs; arg 1; rw [e1]
    conv => lhs; arg 2; arg 2; rw [e2]
    simp)
  exact K.ne d hd (List.append_eq_nil_iff.mp this).1
theorem Ok3.ps (K : Ok3 H al) (ha : al a) (hb : al b) (hc : al c) (e1 : H a = q ++ s) (e2 : H b = q ++ β) (e3 : H c = α ++ s) : b = a ∨ c = a := by
  by_cases n1 : b = a
  · exact .inl n1
  · by_cases n2 : c = a
    · exact .inr n2
    · exfalso
      have := K.three c a b hc ha hb n2 (Ne.symm n1) α (s ++ q) β (by rw [e1, e2, e3]; simp)
      rw [List.append_eq_nil_iff] at this
      exact K.ne a ha (by rw [e1, this.1, this.2]; rfl)
theorem Ok3.t4 (K : Ok3 H al) (ha : al a) (hb : al b) (e : H b = H a ++ β) : a = b := K.t1 (α := []) (y := H a) ha hb rfl e (K.ne a ha)
theorem Ok3.t5 (K : Ok3 H al) (ha : al a) (hb : al b) (e : H b = α ++ H a) : b = a := K.t1 (β := []) (y := H a) hb ha e (by simp) (K.ne a ha)
theorem Ok3.pre (K : Ok3 H al) (ha : al a) (hb : al b) {X Y : List Nat} (e : H a ++ X = H b ++ Y) : a = b := by
  rcases List.append_eq_append_iff.mp e with ⟨z, h1, _⟩ | ⟨z, h1, _⟩
  · exact K.t4 ha hb h1
  · exact (K.t4 hb ha h1).symm
end
/-- a place within an image lies within the image of a letter -/
theorem cut_at (H : Nat → List Nat) : ∀ (w : List Nat) (c : Nat), c < (im H w).length → ∃ A a B v u, w = A ++ a :: B ∧ H a = v ++ u ∧ u ≠ [] ∧ (im H A ++ v).length = c
  | [], c, h => by simp [im] at h
  | a :: w, c, h => by
    by_cases z : c < (H a).length
    · exact ⟨[], a, w, (H a).take c, (H a).drop c, rfl, (List.take_append_drop _ _).symm, fun e => by
        have := congrArg List.length e
        rw [List.length_drop] at this
        simp at this; omega, by rw [im_nil, List.nil_append, List.length_take]; omega⟩
    · rw [im_cons, List.length_append] at h
      obtain ⟨A, b, B, v, u, h1, h2, h3, h4⟩ := cut_at H w (c - (H a).length) (by omega)
      refine ⟨a :: A, b, B, v, u, by rw [h1]; rfl, h2, h3, ?_⟩
      rw [im_cons, List.append_assoc, List.length_append, h4]
      omega
/-- what an image begins with ends within the image of a letter -/
theorem begin_at (H : Nat → List Nat) {w y Z : List Nat} (hy : y ≠ []) (e : y ++ Z = im H w) : ∃ C1 c C2 y' r, w = C1 ++ c :: C2 ∧ y = im H C1 ++ y' ∧ y' ≠ [] ∧ H c = y' ++ r := by
  have l0 : 0 < y.length := List.length_pos_iff.mpr hy
  have l1 : y.length - 1 < (im H w).length := by rw [← e, List.length_append]; omega
  obtain ⟨A, a, B, v, u, h1, h2, h3, h4⟩ := cut_at H w (y.length - 1) l1
  obtain ⟨u0, u', rfl⟩ := List.exists_cons_of_ne_nil h3
  refine ⟨A, a, B, v ++ [u0], u', h1, ?_, by simp, by rw [h2]; simp⟩
  rw [h1, im_app, im_cons, h2] at e
  have e2 : y ++ Z = (im H A ++ (v ++ [u0])) ++ (u' ++ im H B) := by rw [e]; simp
  refine (List.append_inj e2 ?_).1
  rw [← List.append_assoc, List.length_append, h4]
  simp; omega
theorem im_len {H : Nat → List Nat} {al : Nat → Prop} {u : Nat} (hu : ∀ a, al a → u ≤ (H a).length) : ∀ w : List Nat, (∀ a ∈ w, al a) → w.length * u ≤ (im H w).length
  | [], _ => by simp [im]
  | a :: w, h => by
    have := im_len hu w fun b hb => h b (List.mem_cons_of_mem _ hb)
    have h2 := hu a (h a List.mem_cons_self)
    rw [im_cons, List.length_append, List.length_cons, Nat.add_mul, Nat.one_mul]
    omega
section
variable {H : Nat → List Nat} {al : Nat → Prop}
/-- the middle falls within a letter that is neither the first nor the last -/
theorem mid_case (K : Ok3 H al) {a0 aj an : Nat} {A B : List Nat} {P S s0 t v u x : List Nat} (h0 : al a0) (hj : al aj) (hn : al an) (hA : ∀ a ∈ A, al a) (hB : ∀ a ∈ B, al a)
    (w : SF (a0 :: (A ++ aj :: (B ++ [an])))) (two : 1 ≤ A.length + B.length) (e0 : H a0 = P ++ s0) (ns : s0 ≠ []) (en : H an = t ++ S) (nt : t ≠ []) (ej : H aj = v ++ u) (nu : u ≠ [])
    (x1 : x = s0 ++ (im H A ++ v)) (x2 : x = u ++ (im H B ++ t)) : False := by
  have e : s0 ++ (im H A ++ v) = u ++ (im H B ++ t) := x1.symm.trans x2
  have hjn : ∀ b B' , B ++ [an] = b :: B' → aj ≠ b := fun b B' q => by
    have := w
    rw [q] at this
    exact SF.adj (p := a0 :: A) (s := B') (by simpa using this)
  have h0a : ∀ a A', A ++ [aj] = a :: A' → a0 ≠ a := fun a A' q => by
    have := w
    rw [show a0 :: (A ++ aj :: (B ++ [an])) = a0 :: ((A ++ [aj]) ++ (B ++ [an])) by simp, q] at this
    exact SF.adj (p := []) (s := A' ++ (B ++ [an])) (by simpa using this)
  have hBn : ∀ c ∈ B ++ [an], al c := fun c hc => by
    rcases List.mem_append.mp hc with q | q
    · exact hB c q
    · rw [List.mem_singleton] at q; subst q; exact hn
  have hAj : ∀ c ∈ A ++ [aj], al c := fun c hc => by
    rcases List.mem_append.mp hc with q | q
    · exact hA c q
    · rw [List.mem_singleton] at q; subst q; exact hj
  by_cases q0 : u = s0
  · subst q0
    have y2 := List.append_cancel_left e
    · clear e
      -- both go alike
      have key : ∀ (A B : List Nat), (∀ a ∈ A, al a) → (∀ a ∈ B, al a) → im H A ++ v = im H B ++ t → (A = B ∧ v = t) ∨ (A = B ++ [an] ∧ v = [] ∧ S = []) := by
        intro A
        induction A with
        | nil =>
          intro B _ hB e
          cases B with
          | nil => exact .inl ⟨rfl, by simpa [im_nil] using e⟩
          | cons b B =>
            exfalso
            rw [im_nil, List.nil_append, im_cons] at e
            have e2 : H aj = H b ++ (im H B ++ t ++ u) := by rw [ej, e]; simp
            have := K.t4 (hB b List.mem_cons_self) hj e2
            subst this
            have := congrArg List.length e2
            have l1 : 0 < u.length := List.length_pos_iff.mpr nu
            simp only [List.length_append] at this
            omega
        | cons a A ih =>
          intro B hA hB e
          cases B with
          | nil =>
            rw [im_nil, List.nil_append, im_cons] at e
            have e2 : H an = H a ++ (im H A ++ v ++ S) := by rw [en, ← e]; simp
            have := K.t4 (hA a List.mem_cons_self) hn e2
            subst this
            have l := congrArg List.length e2
            simp only [List.length_append] at l
            have lv : v = [] := List.length_eq_zero_iff.mp (by omega)
            have ls : S = [] := List.length_eq_zero_iff.mp (by omega)
            have lA : im H A = [] := List.length_eq_zero_iff.mp (by omega)
            cases A with
            | nil => exact .inr ⟨rfl, lv, ls⟩
            | cons b A =>
              rw [im_cons, List.append_eq_nil_iff] at lA
              exact absurd lA.1 (K.ne b (hA b (by simp)))
          | cons b B =>
            rw [im_cons, im_cons, List.append_assoc, List.append_assoc] at e
            have := K.pre (hA a List.mem_cons_self) (hB b List.mem_cons_self) e
            subst this
            have e := List.append_cancel_left e
            rcases ih B (fun c hc => hA c (List.mem_cons_of_mem _ hc)) (fun c hc => hB c (List.mem_cons_of_mem _ hc)) e with ⟨h1, h2⟩ | ⟨h1, h2, h3⟩
            · exact .inl ⟨by rw [h1], h2⟩
            · exact .inr ⟨by rw [h1]; rfl, h2, h3⟩
      rcases key A B hA hB y2 with ⟨rfl, rfl⟩ | ⟨rfl, rfl, rfl⟩
      · rcases K.ps hj hn h0 ej en e0 with rfl | rfl
        · have := w (a0 :: []) (A ++ [an]) [] (by simp)
          simp at this
        · have := w [] (a0 :: A) [an] (by simp)
          cases this
      · rw [List.nil_append] at ej
        rw [← ej] at e0
        have := K.t5 hj h0 e0
        subst this
        have := w [] (a0 :: (B ++ [an])) [] (by simp)
        cases this
  rcases List.append_eq_append_iff.mp e with ⟨y, y1, y2⟩ | ⟨y, y1, y2⟩
  · -- u longer than s0
    have ny : y ≠ [] := fun q => q0 (by rw [y1, q, List.append_nil])
    · skip
      have z1 : y ++ (im H B ++ t ++ u) = im H (A ++ [aj]) := by
        rw [im_app, im_cons, im_nil, List.append_nil, ej]
        have := congrArg (· ++ u) y2
        simp only [List.append_assoc] at this ⊢
        exact this.symm
      obtain ⟨C1, c, C2, y', r, c1, c2, c3, c4⟩ := begin_at H ny z1
      have hc : al c := hAj c (by rw [c1]; simp)
      have ea : H aj = (v ++ s0 ++ im H C1) ++ y' := by rw [ej, y1, c2]; simp
      have := K.t1 hj hc ea c4 c3
      subst this
      rcases List.eq_nil_or_concat C1 with rfl | ⟨D, d, rfl⟩
      · rw [im_nil, List.nil_append] at c2
        subst c2
        rw [List.nil_append] at c1
        have nr : r ≠ [] := fun q => by
          subst q
          have l1 := congrArg List.length c4
          have l2 := congrArg List.length ej
          have l3 := congrArg List.length y1
          have l4 : 0 < s0.length := List.length_pos_iff.mpr ns
          simp only [List.length_append, List.length_nil] at l1 l2 l3
          omega
        cases A with
        | nil =>
          rw [im_nil, List.nil_append] at y2
          cases B with
          | nil => simp at two
          | cons b B =>
            rw [im_cons] at y2
            exact K.t2 hj (hB b List.mem_cons_self) (hjn b (B ++ [an]) rfl) (α := v ++ s0) (y := y) (β := im H B ++ t ++ u) (by rw [ej, y1]; simp) (by rw [ej, y2]; simp)
        | cons a A =>
          rw [List.cons_append, List.cons.injEq] at c1
          obtain ⟨rfl, _⟩ := c1
          rw [im_cons, c4, List.append_assoc, List.append_assoc] at y2
          have y2 := List.append_cancel_left y2
          cases B with
          | nil =>
            rw [im_nil, List.nil_append] at y2
            have := K.t1 hj hn c4 (y := r) (β := im H A ++ v ++ S) (by rw [en, ← y2]; simp) nr
            exact hjn an [] rfl this
          | cons b B =>
            have nb := hjn b (B ++ [an]) rfl
            have hb := hB b List.mem_cons_self
            rw [im_cons, List.append_assoc] at y2
            rcases List.append_eq_append_iff.mp y2 with ⟨z, h1, _⟩ | ⟨z, h1, _⟩
            · exact nb (K.t1 hj hb c4 h1 nr)
            · rw [h1] at c4
              exact K.t2 hj hb nb (α := v ++ s0) (y := y) (β := z) (by rw [ej, y1]; simp) c4
      · have nd : aj ≠ d := fun q => by
          have := w
          rw [show a0 :: (A ++ aj :: (B ++ [an])) = a0 :: ((A ++ [aj]) ++ (B ++ [an])) by simp, c1] at this
          exact SF.adj (p := a0 :: D) (a := d) (b := aj) (s := C2 ++ (B ++ [an])) (by simpa using this) q.symm
        have hd : al d := hAj d (by rw [c1]; simp)
        refine K.t3 hj hd nd (α := v ++ s0 ++ im H D) (y := y') (r := r) ?_ c4
        rw [ea, List.concat_eq_append, im_app, im_cons, im_nil]
        simp
  · -- s0 longer than u
    have ny : y ≠ [] := fun q => q0 (by rw [y1, q, List.append_nil])
    have z1 : y ++ (im H A ++ v ++ S) = im H (B ++ [an]) := by
      rw [im_app, im_cons, im_nil, List.append_nil, en]
      have := congrArg (· ++ S) y2
      simp only [List.append_assoc] at this ⊢
      exact this.symm
    obtain ⟨C1, c, C2, y', r, c1, c2, c3, c4⟩ := begin_at H ny z1
    have hc : al c := hBn c (by rw [c1]; simp)
    have ea : H a0 = (P ++ u ++ im H C1) ++ y' := by rw [e0, y1, c2]; simp
    have := K.t1 h0 hc ea c4 c3
    subst this
    rcases List.eq_nil_or_concat C1 with rfl | ⟨D, d, rfl⟩
    · rw [im_nil, List.nil_append] at c2
      subst c2
      rw [List.nil_append] at c1
      have nr : r ≠ [] := fun q => by
        subst q
        have l1 := congrArg List.length c4
        have l2 := congrArg List.length e0
        have l3 := congrArg List.length y1
        have l4 : 0 < u.length := List.length_pos_iff.mpr nu
        simp only [List.length_append, List.length_nil] at l1 l2 l3
        omega
      have naj : aj ≠ a0 := hjn a0 C2 c1
      cases B with
      | nil =>
        cases A with
        | nil => simp at two
        | cons a A =>
          rw [im_nil, List.nil_append, im_cons] at y2
          rw [List.nil_append, List.cons.injEq] at c1
          obtain ⟨rfl, _⟩ := c1
          exact K.t2 h0 (hA a List.mem_cons_self) (h0a a (A ++ [aj]) rfl) (α := P ++ u) (y := y) (β := im H A ++ v ++ S) (by rw [e0, y1]; simp) (by rw [en, y2]; simp)
      | cons b B =>
        rw [List.cons_append, List.cons.injEq] at c1
        obtain ⟨rfl, _⟩ := c1
        rw [im_cons, c4, List.append_assoc, List.append_assoc] at y2
        have y2 := (List.append_cancel_left y2).symm
        cases A with
        | nil =>
          rw [im_nil, List.nil_append] at y2
          exact naj (K.t1 h0 hj c4 (y := r) (β := im H B ++ t ++ u) (by rw [ej, y2]; simp) nr).symm
        | cons a A =>
          have na := h0a a (A ++ [aj]) rfl
          have ha := hA a List.mem_cons_self
          rw [im_cons, List.append_assoc] at y2
          rcases List.append_eq_append_iff.mp y2 with ⟨z, h1, _⟩ | ⟨z, h1, _⟩
          · rw [h1] at c4
            exact K.t2 h0 ha na (α := P ++ u) (y := y) (β := z) (by rw [e0, y1]; simp) c4
          · exact na (K.t1 h0 ha c4 h1 nr)
    · have nd : a0 ≠ d := fun q => by
        have := w
        rw [c1] at this
        exact SF.adj (p := a0 :: (A ++ aj :: D)) (a := d) (b := a0) (s := C2) (by simpa using this) q.symm
      have hd : al d := hBn d (by rw [c1]; simp)
      refine K.t3 h0 hd nd (α := P ++ u ++ im H D) (y := y') (r := r) ?_ c4
      rw [ea, List.concat_eq_append, im_app, im_cons, im_nil]
      simp
end
theorem sf_two {a b : Nat} (h : a ≠ b) : SF [a, b] := fun p x s e => by
  have l := congrArg List.length e
  simp only [List.length_append, List.length_cons, List.length_nil] at l
  match x, l, e with
  | [], _, _ => rfl
  | [c], l, e =>
    match p, l, e with
    | [], _, e => simp at e; exact absurd (e.1.trans e.2.1.symm) h
    | q :: p, l, _ => simp at l; omega
  | c :: d :: x, l, _ => simp at l; omega
theorem sf_three {a b c : Nat} (h : a ≠ b) (h2 : b ≠ c) : SF [a, b, c] := fun p x s e => by
  have l := congrArg List.length e
  simp only [List.length_append, List.length_cons, List.length_nil] at l
  match x, l, e with
  | [], _, _ => rfl
  | [d], l, e =>
    match p, l, e with
    | [], _, e => simp at e; exact absurd (e.1.trans e.2.1.symm) h
    | [q], _, e => simp at e; exact absurd (e.2.1.trans e.2.2.1.symm) h2
    | q :: r :: p, l, _ => simp at l; omega
  | c :: d :: x, l, _ => simp at l; omega
theorem ok3_of {H : Nat → List Nat} {al : Nat → Prop} (ne : ∀ a, al a → H a ≠ []) (short : ∀ w, (∀ a ∈ w, al a) → SF w → w.length ≤ 3 → SF (im H w)) : Ok3 H al := by
  refine ⟨ne, fun a b ha hb n => ?_, fun a b c ha hb hc n n2 => ?_⟩
  · have := short [a, b] (fun d hd => by simp at hd; rcases hd with rfl | rfl <;> assumption) (sf_two n) (by simp)
    simpa [im] using this
  · have := short [a, b, c] (fun d hd => by simp at hd; rcases hd with rfl | rfl | rfl <;> assumption) (sf_three n n2) (by simp)
    simpa [im] using this
theorem croch {H : Nat → List Nat} {al : Nat → Prop} {M u L : Nat} (hM : ∀ a, al a → (H a).length ≤ M) (hu : ∀ a, al a → u ≤ (H a).length) (hu1 : 1 ≤ u) (hL : 3 ≤ L) (hL2 : M ≤ (L - 1) * u + 2)
    (short : ∀ w, (∀ a ∈ w, al a) → SF w → w.length ≤ L → SF (im H w)) : ∀ (n : Nat) (w : List Nat), w.length ≤ n → (∀ a ∈ w, al a) → SF w → SF (im H w) := by
  have ne : ∀ a, al a → H a ≠ [] := fun a ha q => by
    have := hu a ha
    rw [q] at this
    simp at this; omega
  have K : Ok3 H al := ok3_of ne fun w h1 h2 h3 => short w h1 h2 (by omega)
  intro n
  induction n with
  | zero => intro w h1 h2 h3; exact short w h2 h3 (by omega)
  | succ n ih =>
    intro w hl hw sf
    by_cases hs : w.length ≤ L
    · exact short w hw sf hs
    · intro P x S e
      refine Decidable.byContradiction fun nx => ?_
      -- the first and the last
      obtain ⟨a0, w1, rfl⟩ : ∃ a0 w1, w = a0 :: w1 := by
        cases w with
        | nil => simp at hs
        | cons a w => exact ⟨a, w, rfl⟩
      rcases List.eq_nil_or_concat w1 with rfl | ⟨md, an, rfl⟩
      · simp at hs; omega
      rw [List.concat_eq_append] at *
      have h0 : al a0 := hw a0 List.mem_cons_self
      have hn : al an := hw an (by simp)
      have hm : ∀ a ∈ md, al a := fun a ha => hw a (by simp [ha])
      have hlm : L ≤ md.length + 1 := by simp at hs; omega
      have lx : 0 < x.length := List.length_pos_iff.mpr nx
      have sf1 : SF (im H (md ++ [an])) := ih _ (by simp at hl ⊢; omega) (fun a ha => hw a (List.mem_cons_of_mem _ ha)) (SF.mid (p := [a0]) (s := []) (by simpa using sf))
      have sf2 : SF (im H (a0 :: md)) := ih _ (by simp at hl ⊢; omega) (fun a ha => hw a (by
        rcases List.mem_cons.mp ha with q | q
        · simp [q]
        · simp [q])) (SF.mid (p := []) (s := [an]) (by simpa using sf))
      have e1 : H a0 ++ im H (md ++ [an]) = P ++ (x ++ (x ++ S)) := by rw [← e, im_cons]
      obtain ⟨s0, e0, es⟩ : ∃ s0, H a0 = P ++ s0 ∧ s0 ++ im H (md ++ [an]) = x ++ (x ++ S) := by
        rcases List.append_eq_append_iff.mp e1 with ⟨z, h1, h2⟩ | ⟨z, h1, h2⟩
        · exact absurd (sf1 z x S h2) nx
        · exact ⟨z, h1, h2.symm⟩
      have ns : s0 ≠ [] := fun q => by
        subst q
        exact nx (sf1 [] x S (by simpa using es))
      have e2 : (P ++ (x ++ x)) ++ S = im H (a0 :: md) ++ H an := by
        have : im H (a0 :: (md ++ [an])) = im H (a0 :: md) ++ H an := by
          rw [show a0 :: (md ++ [an]) = (a0 :: md) ++ [an] by simp, im_app, im_cons H an, im_nil, List.append_nil]
        rw [← this, e]; simp
      obtain ⟨t, en, et⟩ : ∃ t, H an = t ++ S ∧ P ++ (x ++ x) = im H (a0 :: md) ++ t := by
        rcases List.append_eq_append_iff.mp e2 with ⟨z, h1, h2⟩ | ⟨z, h1, h2⟩
        · exfalso
          exact nx (sf2 P x z (by rw [h1]; simp))
        · exact ⟨z, h2, h1⟩
      have nt : t ≠ [] := fun q => by
        subst q
        exact nx (sf2 P x [] (by rw [List.append_nil] at et; rw [← et]; simp))
      have E : s0 ++ (im H md ++ t) = x ++ x := by
        rw [im_cons, e0, List.append_assoc, List.append_assoc] at et
        exact (List.append_cancel_left et).symm
      have lE := congrArg List.length E
      simp only [List.length_append] at lE
      have ls : 0 < s0.length := List.length_pos_iff.mpr ns
      have lt : 0 < t.length := List.length_pos_iff.mpr nt
      have l0 := congrArg List.length e0
      have ln := congrArg List.length en
      simp only [List.length_append] at l0 ln
      have M0 := hM a0 h0
      have Mn := hM an hn
      have lm := im_len hu md hm
      have lm2 : (L - 1) * u ≤ md.length * u := Nat.mul_le_mul_right u (by omega)
      by_cases c1 : x.length < s0.length
      · -- the middle falls within the first
        omega
      · by_cases c2 : s0.length + (im H md).length ≤ x.length
        · -- within the last
          have E2 : (s0 ++ im H md) ++ t = x ++ x := by rw [← E]; simp
          obtain ⟨v, v1, v2⟩ : ∃ v, x = (s0 ++ im H md) ++ v ∧ t = v ++ x := by
            rcases List.append_eq_append_iff.mp E2 with ⟨z, h1, h2⟩ | ⟨z, h1, h2⟩
            · exact ⟨z, h1, h2⟩
            · have l := congrArg List.length h1
              simp only [List.length_append] at l
              have : z = [] := List.length_eq_zero_iff.mp (by omega)
              subst this
              exact ⟨[], by rw [h1]; simp, by rw [List.nil_append] at h2 ⊢; exact h2.symm⟩
          have l1 := congrArg List.length v1
          have l2 := congrArg List.length v2
          simp only [List.length_append] at l1 l2
          have hv : v = [] := List.length_eq_zero_iff.mp (by omega)
          subst hv
          rw [List.append_nil] at v1
          rw [List.nil_append] at v2
          have en2 : H an = s0 ++ (im H md ++ S) := by rw [en, v2, v1]; simp
          have := K.t1 h0 hn e0 en2 ns
          subst this
          cases md with
          | nil => simp at hlm; omega
          | cons b md =>
            rw [im_cons] at en2
            exact K.t2 h0 (hm b List.mem_cons_self) (SF.adj (p := []) (s := md ++ [a0]) (by simpa using sf)) e0 (β := im H md ++ S) (by rw [en2]; simp)
        · obtain ⟨A, aj, B, v, y, q1, q2, q3, q4⟩ := cut_at H md (x.length - s0.length) (by omega)
          have x1 : x = s0 ++ (im H A ++ v) ∧ x = y ++ (im H B ++ t) := by
            have E3 : (s0 ++ (im H A ++ v)) ++ (y ++ (im H B ++ t)) = x ++ x := by
              rw [← E, q1, im_app, im_cons, q2]; simp
            have l : (s0 ++ (im H A ++ v)).length = x.length := by
              rw [List.length_append, q4]; omega
            have := List.append_inj E3 l
            exact ⟨this.1.symm, this.2.symm⟩
          subst q1
          refine mid_case K h0 (hm aj (by simp)) hn (fun a ha => hm a (by simp [ha])) (fun a ha => hm a (by simp [ha])) (by simpa using sf) ?_ e0 ns en nt q2 q3 x1.1 x1.2
          simp at hlm
          omega
/-! no double, said both ways; what keeps says of all words -/
theorem efree_false {v : List Nat} {h : Nat} (h1 : 1 ≤ h) (h2 : 2 * h ≤ v.length) (d : dblE v h = true) : efree v = false := by
  unfold efree
  rw [Bool.not_eq_false', List.any_eq_true]
  exact ⟨h - 1, List.mem_range.mpr (by omega), by rw [show h - 1 + 1 = h by omega]; exact d⟩
theorem sf_of_free {w : List Nat} (f : FreeW w) : SF w := fun p x s e => by
  refine Decidable.byContradiction fun nx => ?_
  have l : 0 < x.length := List.length_pos_iff.mpr nx
  have lw := congrArg List.length e
  simp only [List.length_append] at lw
  have hf := f (p.length + 2 * x.length - 1) (by omega)
  have ht : w.take (p.length + 2 * x.length - 1 + 1) = p ++ (x ++ x) := by
    rw [e, show p.length + 2 * x.length - 1 + 1 = (p ++ (x ++ x)).length by simp; omega, show p ++ (x ++ (x ++ s)) = (p ++ (x ++ x)) ++ s by simp, List.take_left']
    rfl
  rw [ht] at hf
  have d : dblE (p ++ (x ++ x)) x.length = true := by
    unfold dblE
    rw [decide_eq_true_eq]
    have l1 : (p ++ (x ++ x)).length - x.length = (p ++ x).length := by simp; omega
    have l2 : (p ++ (x ++ x)).length - 2 * x.length = p.length := by simp; omega
    rw [l1, l2, show p ++ (x ++ x) = (p ++ x) ++ x by simp, List.drop_left', List.take_left', List.drop_left'] <;> rfl
  rw [efree_false l (by simp; omega) d] at hf
  cases hf
theorem free_of_sf {w : List Nat} (f : SF w) : FreeW w := fun e he => by
  refine Decidable.byContradiction fun n => ?_
  unfold efree at n
  rw [Bool.not_eq_true, Bool.not_eq_false', List.any_eq_true] at n
  obtain ⟨j, hj, d⟩ := n
  have hj := List.mem_range.mp hj
  rw [List.length_take] at hj
  obtain ⟨v, hv⟩ : ∃ v, v = w.take (e + 1) := ⟨_, rfl⟩
  rw [← hv] at d
  have hl : v.length = e + 1 := by rw [hv, List.length_take]; omega
  unfold dblE at d
  rw [decide_eq_true_eq] at d
  obtain ⟨x, hx⟩ : ∃ x, x = v.drop (v.length - (j + 1)) := ⟨_, rfl⟩
  have e1 : v = v.take (v.length - 2 * (j + 1)) ++ (x ++ x) := by
    have a := List.take_append_drop (v.length - (j + 1)) v
    have b := List.take_append_drop (v.length - 2 * (j + 1)) (v.take (v.length - (j + 1)))
    rw [List.take_take, Nat.min_eq_left (by omega), ← d, ← hx] at b
    rw [← hx, ← b] at a
    rw [← List.append_assoc]
    exact a.symm
  obtain ⟨q, hq⟩ : ∃ q, q = w.drop (e + 1) := ⟨_, rfl⟩
  have := f (v.take (v.length - 2 * (j + 1))) x q (by
    have := List.take_append_drop (e + 1) w
    rw [← hv, ← hq, e1] at this
    rw [← this]
    simp)
  have lx := congrArg List.length hx
  rw [List.length_drop, this] at lx
  simp at lx
  omega
theorem frees_all {m : Nat} : ∀ (n : Nat) (w : List Nat), w.length = n → IsW m w → m ≤ 4 → FreeW w → w ∈ frees m n
  | 0, w, hl, _, _, _ => by
    obtain rfl := List.length_eq_zero_iff.mp hl
    simp [frees]
  | n + 1, w, hl, hw, hm, hf => by
    rcases List.eq_nil_or_concat w with rfl | ⟨v, c, rfl⟩
    · simp at hl
    · rw [List.concat_eq_append] at *
      have lv : v.length = n := by simpa using hl
      rw [frees]
      refine List.mem_flatMap.mpr ⟨v, frees_all n v lv (fun d hd => hw d (by simp [hd])) hm (fun e he => ?_), ?_⟩
      · have := hf e (by simp; omega)
        rwa [List.take_append_of_le_length (by omega)] at this
      · have hc := hw c (by simp)
        have he := hf v.length (by simp)
        rw [List.take_of_length_le (by simp)] at he
        refine List.mem_map.mpr ⟨c, List.mem_filter.mpr ⟨?_, he⟩, rfl⟩
        unfold lets
        have h : m = 0 ∨ m = 1 ∨ m = 2 ∨ m = 3 ∨ m = 4 := by omega
        rcases h with rfl | rfl | rfl | rfl | rfl <;> simp <;> omega
theorem oc_keep {rs : List (List Nat)} {m : Nat} : ∀ (k i : Nat), oc rs m i k = .keep → ∀ j, i < j → j ≤ i + k → chk rs (frees m j) = none
  | 0, i, _, j, h1, h2 => by omega
  | k + 1, i, h, j, h1, h2 => by
    rw [oc] at h
    by_cases z : 800 < (gones m (i + 1)).length
    · rw [if_pos z] at h; cases h
    · rw [if_neg z] at h
      cases c : chk rs (frees m (i + 1)) with
      | some x => rw [c] at h; cases h
      | none =>
        rw [c] at h
        by_cases y : j = i + 1
        · subst y; exact c
        · exact oc_keep k (i + 1) h j (by omega) (by omega)
theorem chk_none_of {rs ws : List (List Nat)} (h : chk rs ws = none) : ∀ w ∈ ws, rep 2 1 false (img rs w) = none := fun w hw => by
  unfold chk at h
  rw [List.findSome?_eq_none_iff] at h
  have := h w hw
  cases e : rep 2 1 false (img rs w) with
  | none => rfl
  | some p => rw [e] at this; cases this
theorem keep_all {m : Nat} {rs : List (List Nat)} (hm : m ≤ 4) (hm1 : 1 ≤ m) (hr : IsR m 12 rs) (h : oc rs m 0 (looked rs) = .keep) {w : List Nat} (hw : IsW m w) (hf : FreeW w) : FreeW (img rs w) := by
  obtain ⟨H, hH⟩ : ∃ H : Nat → List Nat, H = fun c => rs.getD (c - 97) [] := ⟨_, rfl⟩
  have ei : ∀ v, img rs v = im H v := fun v => by rw [hH]; rfl
  have al : ∀ a, (97 ≤ a ∧ a < 97 + m) → H a ∈ rs := fun a ha => by
    rw [hH]
    show rs.getD (a - 97) [] ∈ rs
    rw [List.getD_eq_getElem?_getD, List.getElem?_eq_getElem (by rw [hr.len]; omega)]
    exact List.getElem_mem _
  have g1 : 1 ≤ mnl rs := mnl_ge (by rw [hr.len]; exact hm1) fun w hw => (hr.ok w hw).2.1
  rw [ei]
  refine free_of_sf (croch (al := fun a => 97 ≤ a ∧ a < 97 + m) (M := mxl rs) (u := mnl rs) (L := looked rs) (fun a ha => mxl_ge (al a ha)) (fun a ha => mnl_le (al a ha)) g1 (by unfold looked; exact Nat.le_add_right _ _) ?_ (fun v hv sf hl => ?_) w.length w (Nat.le_refl _) hw (sf_of_free hf))
  · unfold looked
    have d1 := Nat.div_add_mod (mxl rs - 4) (mnl rs)
    have d2 := Nat.mod_lt (mxl rs - 4) (show 0 < mnl rs by omega)
    rw [show 3 + (mxl rs - 4) / mnl rs - 1 = 2 + (mxl rs - 4) / mnl rs by generalize (mxl rs - 4) / mnl rs = q; omega, Nat.add_mul, Nat.mul_comm ((mxl rs - 4) / mnl rs)]
    generalize mnl rs * ((mxl rs - 4) / mnl rs) = q at *
    generalize (mxl rs - 4) % mnl rs = r at *
    omega
  · rw [← ei]
    by_cases hv0 : v.length = 0
    · obtain rfl := List.length_eq_zero_iff.mp hv0
      intro p x s e
      have := congrArg List.length e
      rw [show img rs [] = [] from rfl] at this
      simp only [List.length_append, List.length_nil] at this
      exact List.length_eq_zero_iff.mp (by omega)
    · have c := oc_keep _ _ h v.length (Nat.pos_of_ne_zero hv0) (by rw [Nat.zero_add]; exact hl)
      exact sf_of_free (rep_none.mp (chk_none_of c v (frees_all v.length v rfl hv hm (free_of_sf sf))))
/-! images of all free words up to a length, looked at letter by letter (words turned about, as lists) -/
def pfx : Nat → List Nat → List Nat → Bool
  | 0, _, _ => true
  | h + 1, a :: r, b :: s => Nat.beq a b && pfx h r s
  | _ + 1, _, _ => false
theorem pfx_of : ∀ (h : Nat) (r s : List Nat), h ≤ r.length → h ≤ s.length → r.take h = s.take h → pfx h r s = true
  | 0, _, _, _, _, _ => by rw [pfx]
  | h + 1, a :: r, b :: s, h1, h2, e => by
    rw [List.take_succ_cons, List.take_succ_cons, List.cons.injEq] at e
    rw [pfx, e.1, Nat.beq_refl, pfx_of h r s (by simpa using h1) (by simpa using h2) e.2]; rfl
  | h + 1, [], _, h1, _, _ => by simp at h1
  | h + 1, _ :: _, [], _, h2, _ => by simp at h2
def efG (r : List Nat) : Nat → Nat → List Nat → Bool
  | 0, _, _ => true
  | k + 1, h, s => !pfx h r s && efG r k (h + 1) s.tail
theorem efG_ok (r : List Nat) : ∀ (k h : Nat) (s : List Nat), s = r.drop h → efG r k h s = true → ∀ j, h ≤ j → j < h + k → pfx j r (r.drop j) = false
  | 0, h, s, _, _, j, h1, h2 => by omega
  | k + 1, h, s, e, g, j, h1, h2 => by
    rw [efG, Bool.and_eq_true, Bool.not_eq_true'] at g
    by_cases z : j = h
    · subst z; rw [← e]; exact g.1
    · exact efG_ok r k (h + 1) s.tail (by rw [e, List.tail_drop]) g.2 j (by omega) (by omega)
def efR (r : List Nat) : Bool := efG r (r.length / 2) 1 r.tail
theorem efR_ok {r : List Nat} (h : efR r = true) : efree r.reverse = true := by
  unfold efree
  rw [Bool.not_eq_true', List.any_eq_false]
  intro j hj hd
  have hj := List.mem_range.mp hj
  rw [List.length_reverse] at hj
  have k := efG_ok r (r.length / 2) 1 r.tail (by rw [List.drop_one]) h (j + 1) (by omega) (by omega)
  unfold dblE at hd
  rw [decide_eq_true_eq, List.length_reverse, List.drop_reverse, List.take_reverse, List.drop_reverse, List.length_drop, show r.length - (r.length - (j + 1)) = j + 1 by omega, show r.length - (j + 1) - (r.length - 2 * (j + 1)) = j + 1 by omega] at hd
  have hd := List.reverse_inj.mp hd
  rw [pfx_of (j + 1) r (r.drop (j + 1)) (by omega) (by rw [List.length_drop]; omega) hd] at k
  cases k
def pushC : List Nat → List Nat → Option (List Nat)
  | r, [] => some r
  | r, c :: v => if efR (c :: r) then pushC (c :: r) v else none
theorem pushC_ok : ∀ (v u r r' : List Nat), r = u.reverse → FreeW u → pushC r v = some r' → r' = (u ++ v).reverse ∧ FreeW (u ++ v)
  | [], u, r, r', e, f, p => by
    rw [pushC, Option.some.injEq] at p
    rw [List.append_nil, ← p]
    exact ⟨e, f⟩
  | c :: v, u, r, r', e, f, p => by
    rw [pushC] at p
    by_cases z : efR (c :: r) = true
    · rw [if_pos z] at p
      have g := efR_ok z
      have e2 : c :: r = (u ++ [c]).reverse := by rw [e, List.reverse_append]; rfl
      rw [e2, List.reverse_reverse] at g
      have := pushC_ok v (u ++ [c]) (c :: r) r' e2 (f.snoc g) p
      rwa [List.append_assoc] at this
    · rw [if_neg z] at p; cases p
def tr (rs : List (List Nat)) : Nat → List Nat → List Nat → Bool
  | 0, _, _ => true
  | k + 1, r, w => (lets 4).all fun c => !efree (w ++ [c]) || match pushC r (rs.getD (c - 97) []) with
    | some r' => tr rs k r' (w ++ [c])
    | none => false
theorem lets4 {c : Nat} (h : 97 ≤ c ∧ c < 97 + 4) : c ∈ lets 4 := by
  have h2 : c = 97 ∨ c = 98 ∨ c = 99 ∨ c = 100 := by omega
  rcases h2 with rfl | rfl | rfl | rfl <;> decide
theorem img_snoc (rs : List (List Nat)) (w : List Nat) (c : Nat) : img rs (w ++ [c]) = img rs w ++ rs.getD (c - 97) [] := by
  rw [img_app]
  congr 1
  unfold img imgs
  simp
theorem tr_ok (rs : List (List Nat)) : ∀ (s : List Nat) (k : Nat) (r w : List Nat), tr rs k r w = true → r = (img rs w).reverse → FreeW (img rs w) → s.length ≤ k → IsW 4 s → (∀ e, w.length ≤ e → e < w.length + s.length → efree ((w ++ s).take (e + 1)) = true) → FreeW (img rs (w ++ s))
  | [], _, _, w, _, _, f, _, _, _ => by rw [List.append_nil]; exact f
  | c :: s, 0, _, _, _, _, _, h, _, _ => by simp at h
  | c :: s, k + 1, r, w, t, e, f, h, hs, g => by
    rw [tr, List.all_eq_true] at t
    have t1 := t c (lets4 (hs c List.mem_cons_self))
    have g0 := g w.length (Nat.le_refl _) (by simp)
    rw [show (w ++ c :: s).take (w.length + 1) = w ++ [c] by rw [List.take_append, List.take_of_length_le (Nat.le_succ _)]; simp] at g0
    rw [g0, Bool.not_true, Bool.false_or] at t1
    cases p : pushC r (rs.getD (c - 97) []) with
    | none => rw [p] at t1; cases t1
    | some r' =>
      rw [p] at t1
      dsimp only at t1
      obtain ⟨e2, f2⟩ := pushC_ok _ _ _ _ e f p
      rw [← img_snoc] at e2 f2
      have := tr_ok rs s k r' (w ++ [c]) t1 e2 f2 (by simpa using h) (fun d hd => hs d (List.mem_cons_of_mem _ hd)) (fun e h1 h2 => by
        rw [List.append_assoc]
        rw [List.length_append, List.length_singleton] at h1 h2
        exact g e (by omega) (by rw [List.length_cons]; omega))
      rwa [List.append_assoc] at this
theorem frees_free {m : Nat} : ∀ (n : Nat) (w : List Nat), w ∈ frees m n → FreeW w
  | 0, w, h => by
    rw [frees, List.mem_singleton] at h
    subst h
    exact FreeW.nil
  | n + 1, v, h => by
    rw [frees] at h
    obtain ⟨w, hw, hv⟩ := List.mem_flatMap.mp h
    obtain ⟨c, hc, rfl⟩ := List.mem_map.mp hv
    exact (frees_free n w hw).snoc (List.mem_filter.mp hc).2
theorem chk_none {rs : List (List Nat)} {k j : Nat} (t : tr rs k [] [] = true) (h : j ≤ k) : chk rs (frees 4 j) = none := by
  unfold chk
  rw [List.findSome?_eq_none_iff]
  intro w hw
  obtain ⟨h1, h2⟩ := (frees_ok (m := 4) (by decide) j).ok w hw
  have f := frees_free j w hw
  have := tr_ok rs w k [] [] t rfl FreeW.nil (by omega) h1 (fun e _ h3 => by
    rw [List.nil_append]
    exact f e (by simpa using h3))
  rw [List.nil_append] at this
  rw [rep_none.mpr this]; rfl
theorem oc_keep_of {rs : List (List Nat)} {m : Nat} : ∀ (k i : Nat), (∀ j, i < j → j ≤ i + k → chk rs (frees m j) = none ∧ (gones m j).length ≤ 800) → oc rs m i k = .keep
  | 0, i, _ => rfl
  | k + 1, i, h => by
    obtain ⟨h1, h2⟩ := h (i + 1) (by omega) (by omega)
    rw [oc, if_neg (by omega), h1]
    exact oc_keep_of k (i + 1) fun j h3 h4 => h j (by omega) (by omega)
theorem g3 : (gones 4 3).length = 52 := by decide +kernel
theorem gle3 {j : Nat} (h : j ≤ 3) : (gones 4 j).length ≤ 800 := by
  have := gones_mono 4 (3 - j) j
  rw [show j + (3 - j) = 3 by omega, g3] at this
  omega
/-- a rule of four letters that keeps, its words all of one size -/
structure Kr (b : Nat) (rs : List (List Nat)) : Prop where
  r : IsR 4 b rs
  all : ∀ w ∈ rs, w.length = b
  k : oc rs 4 0 3 = .keep
theorem Kr.lk {b : Nat} {rs : List (List Nat)} (h : Kr b rs) (hb : 1 ≤ b) : looked rs = 3 := by
  have h1 : mxl rs ≤ b := mxl_le fun w hw => by rw [h.all w hw]; exact Nat.le_refl _
  have h2 : b ≤ mnl rs := mnl_ge (by rw [h.r.len]; decide) fun w hw => by rw [h.all w hw]; exact Nat.le_refl _
  unfold looked
  rw [Nat.div_eq_of_lt (by omega)]
theorem Kr.free {b : Nat} {rs : List (List Nat)} (h : Kr b rs) (hb : 1 ≤ b) (hb2 : b ≤ 12) {w : List Nat} (hw : IsW 4 w) (hf : FreeW w) : FreeW (img rs w) :=
  keep_all (by decide) (by decide) (IsR.wide h.r hb2) (by rw [h.lk hb]; exact h.k) hw hf
theorem Kr.comp {a b : Nat} {fs ls : List (List Nat)} (hf : Kr a fs) (hl : Kr b ls) (ha : 1 ≤ a) (ha2 : a ≤ 12) (hb : 1 ≤ b) (hb2 : b ≤ 12) : Kr (a * b) (NV.comp fs ls) := by
  refine ⟨comp_ok hf.r hl.r, fun w hw => ?_, oc_keep_of 3 0 fun j h1 h2 => ⟨?_, gle3 (by omega)⟩⟩
  · obtain ⟨v, hv, rfl⟩ := List.mem_map.mp hw
    have lv := hf.all v hv
    have hvw := (hf.r.ok v hv).1
    have key : ∀ u : List Nat, IsW 4 u → (img ls u).length = u.length * b := fun u => by
      induction u with
      | nil => intro _; simp [img, imgs]
      | cons c r ih =>
        intro hu
        have hc := hu c List.mem_cons_self
        have e : img ls (c :: r) = ls.getD (c - 97) [] ++ img ls r := rfl
        have hm : ls.getD (c - 97) [] ∈ ls := by
          rw [List.getD_eq_getElem?_getD, List.getElem?_eq_getElem (by rw [hl.r.len]; omega)]
          exact List.getElem_mem _
        rw [e, List.length_append, hl.all _ hm, ih fun d hd => hu d (List.mem_cons_of_mem _ hd), List.length_cons, Nat.add_mul]
        omega
    rw [key v hvw, lv]
  · unfold chk
    rw [List.findSome?_eq_none_iff]
    intro w hw
    obtain ⟨w1, w2⟩ := (frees_ok (m := 4) (by decide) j).ok w hw
    have f1 := hf.free ha ha2 w1 (frees_free _ _ hw)
    have f2 := hl.free hb hb2 (img_w hf.r w1) f1
    rw [img_comp hf.r w1, rep_none.mpr f2]; rfl
def ren (r c : Nat) : Nat := 97 + (c - 97 + r) % 4
def kb0 : List (List Nat) := [[97, 98], [97, 99], [98, 97], [99, 97]]
def kbT (t : Nat) : List (List Nat) := kb0.drop t ++ kb0.take t
def mkA (a : Nat) (w : List Nat) : List Nat := if a = 0 then w ++ [100] else 100 :: w
def mkR (t a r : Nat) : List (List Nat) := (kbT t).map fun w => (mkA a w).map (ren r)
def pR (s f : Nat) : List (List Nat) := (List.range 4).map fun k => [97 + (k * s + f) % 4]
def okR (b : Nat) (rs : List (List Nat)) : Bool := tr rs 3 [] [] && decide (rs.length = 4) && rs.all fun w => w.all (fun c => decide (97 ≤ c ∧ c < 97 + 4)) && decide (w.length = b)
theorem okR_kr {b : Nat} (hb : 1 ≤ b) {rs : List (List Nat)} (h : okR b rs = true) : Kr b rs := by
  unfold okR at h
  rw [Bool.and_eq_true, Bool.and_eq_true, decide_eq_true_eq, List.all_eq_true] at h
  obtain ⟨⟨h1, h2⟩, h3⟩ := h
  have h4 : ∀ w ∈ rs, IsW 4 w ∧ w.length = b := fun w hw => by
    have := h3 w hw
    rw [Bool.and_eq_true, List.all_eq_true, decide_eq_true_eq] at this
    exact ⟨fun c hc => of_decide_eq_true (this.1 c hc), this.2⟩
  exact ⟨⟨h2, fun w hw => ⟨(h4 w hw).1, by rw [(h4 w hw).2]; exact hb, by rw [(h4 w hw).2]; exact Nat.le_refl _⟩⟩, fun w hw => (h4 w hw).2, oc_keep_of 3 0 fun j _ h6 => ⟨chk_none h1 (by omega), gle3 (by omega)⟩⟩
theorem mkR_all : ((List.range 4).all fun t => (List.range 2).all fun a => (List.range 4).all fun r => okR 3 (mkR t a r)) = true := by decide +kernel
theorem pR_all : ([1, 3].all fun s => (List.range 4).all fun f => okR 1 (pR s f)) = true := by decide +kernel
theorem mkR_kr {t a r : Nat} (ht : t < 4) (ha : a < 2) (hr : r < 4) : Kr 3 (mkR t a r) :=
  okR_kr (by decide) (List.all_eq_true.mp (List.all_eq_true.mp (List.all_eq_true.mp mkR_all t (List.mem_range.mpr ht)) a (List.mem_range.mpr ha)) r (List.mem_range.mpr hr))
theorem pR_kr {s f : Nat} (hs : s = 1 ∨ s = 3) (hf : f < 4) : Kr 1 (pR s f) :=
  okR_kr (by decide) (List.all_eq_true.mp (List.all_eq_true.mp pR_all s (by simp [hs])) f (List.mem_range.mpr hf))
theorem renamed_ok {w : List Nat} (hw : IsW 4 w) (hl : w.length ≤ 1000) (r : Nat) : s_law_renamed [.v (.str w), .v (.int (r : Int))] = .ok (.v (.str (w.map (ren r)))) [.v (.str w), .v (.int (r : Int))] := by
  have c1 := eComp_go (g := .n 2) (ws := [2]) (it := iE (eV 0)) (f := x_law_renamed_1) (ρ := [.v (.str w), .v (.int (r : Int)), .un]) (fun d => match d with | .str [c] => .str [ren r c] | d => d) (w.map fun c => D.str [c]) (by simp) (fun x hx => by
    obtain ⟨c, hc, rfl⟩ := List.mem_map.mp hx
    obtain ⟨h1, h2⟩ := hw c hc
    have e1 := abcd_no h1 h2 (Nat.le_refl 4)
    have e2 := abcd_at (i := (((c - 97 : Nat) : Int) + (r : Int)) % 4) (by omega) (by omega)
    have e3 : 97 + ((((c - 97 : Nat) : Int) + (r : Int)) % 4).toNat = ren r c := by unfold ren; omega
    rw [e3] at e2
    dsimp only
    generalize ((c - 97 : Nat) : Int) = k at *
    simp -implicitDefEqProofs [x_law_renamed_1, e1, e2]) (by rw [List.length_map]; unfold line; omega)
  rw [List.map_map] at c1
  have jn := join_ok (w.map fun c => [ren r c]) (by rw [List.map_map]; show (w.map fun _ => 1).sum ≤ _; rw [List.map_const', List.sum_replicate_nat]; unfold line; omega)
  rw [List.map_map, flat1] at jn
  have jn2 : opJoin (.str []) (.lst (w.map ((fun d => match d with | .str [c] => D.str [ren r c] | d => d) ∘ fun c => D.str [c]))) = some (.str (w.map (ren r))) := jn
  generalize w.map ((fun d => match d with | .str [c] => D.str [ren r c] | d => d) ∘ fun c => D.str [c]) = L at *
  rw [s_law_renamed, run_ap (by rfl)]
  simp -implicitDefEqProofs [g_law_renamed, c1, jn2, lent]
theorem kbT_w {t : Nat} (ht : t < 4) : ∀ w ∈ kbT t, IsW 4 w ∧ w.length = 2 := by
  have h : ((List.range 4).all fun t => (kbT t).all fun w => w.all (fun c => decide (97 ≤ c ∧ c < 97 + 4)) && decide (w.length = 2)) = true := by decide
  intro w hw
  have := List.all_eq_true.mp (List.all_eq_true.mp h t (List.mem_range.mpr ht)) w hw
  rw [Bool.and_eq_true, List.all_eq_true, decide_eq_true_eq] at this
  exact ⟨fun c hc => of_decide_eq_true (this.1 c hc), this.2⟩
def mkF (a r : Nat) : D → D
  | .str w => .str ((mkA a w).map (ren r))
  | d => d
def pF (s f : Nat) : D → D
  | .int i => .str [97 + (i.toNat * s + f) % 4]
  | d => d
theorem kept_ok (ds0 : List Int) (h : Ok31 ds0) (kk : Nat) : ∃ b rs ds', (b = 1 ∨ b = 3) ∧ Kr b rs ∧ Ok31 ds' ∧ s_law_kept [.io kk (drD ds0)] = .ok (.v (.tup (rs.map D.str))) [.io kk (drD ds')] := by
  have n1 := next_ok ds0 0
  have h1 := Ok31.init h
  generalize nxv ds0 = y1 at *
  generalize ds0.dropLast = ds1 at *
  have n2 := next_ok ds1 0
  have h2 := Ok31.init h1
  generalize nxv ds1 = y2 at *
  generalize ds1.dropLast = ds2 at *
  have n3 := next_ok ds2 0
  have h3 := Ok31.init h2
  generalize nxv ds2 = y3 at *
  generalize ds2.dropLast = ds3 at *
  have r4 := inR_of (show (-1000000000 : Int) ≤ 4 by decide) (by decide)
  by_cases c : y1 % 5 = 0
  · obtain ⟨s, hs, hs2⟩ : ∃ s : Nat, opIx (.lst [.int 1, .int 3]) (.int (y2 % 2)) = some (.int (s : Int)) ∧ (s = 1 ∨ s = 3) := by
      have h2 : y2 % 2 = 0 ∨ y2 % 2 = 1 := by omega
      rcases h2 with h2 | h2 <;> rw [h2]
      · exact ⟨1, rfl, .inl rfl⟩
      · exact ⟨3, rfl, .inr rfl⟩
    obtain ⟨f, hf, hf2⟩ : ∃ f : Nat, y3 % 4 = (f : Int) ∧ f < 4 := ⟨(y3 % 4).toNat, by omega, by omega⟩
    have c1 := eComp_go (g := .n 7) (ws := [7]) (it := iR1 (eC (.int 4))) (f := x_law_kept_1) (ρ := [.io kk (drD ds3), .v (.int (s : Int)), .v (.int (f : Int)), .un, .un, .un, .un, .un]) (pF s f) (rng 0 4) (by simp [r4]) (fun x hx => by
      obtain ⟨i, hy, g0, g1⟩ := rng_mem hx
      subst hy
      obtain ⟨i, rfl⟩ : ∃ j : Nat, i = (j : Int) := ⟨i.toNat, by omega⟩
      have m1 := opMulN (i := i) (j := s) (by omega) (by omega)
      have i1 : ((i * s : Nat) : Int) + (f : Int) = ((i * s + f : Nat) : Int) := by omega
      have e6 : opMod (.int ((i * s + f : Nat) : Int)) (.int 4) = some (.int (((i * s + f) % 4 : Nat) : Int)) := by rw [opMod_int (by decide)]; rfl
      have e7 := abcd_at (i := (((i * s + f) % 4 : Nat) : Int)) (by omega) (by omega)
      rw [Int.toNat_natCast] at e7
      rw [pF, Int.toNat_natCast]
      generalize 97 + (i * s + f) % 4 = q at *
      generalize (((i * s + f) % 4 : Nat) : Int) = q2 at *
      generalize ((i * s + f : Nat) : Int) = q3 at *
      generalize ((i * s : Nat) : Int) = q4 at *
      simp -implicitDefEqProofs [x_law_kept_1, m1, i1, e6, e7]) (by rw [rng_len]; decide)
    have f1 : (rng 0 4).map (pF s f) = (pR s f).map D.str := rfl
    rw [f1] at c1
    refine ⟨1, _, ds3, .inl rfl, pR_kr hs2 hf2, h3, ?_⟩
    generalize (pR s f).map D.str = R at *
    rw [s_law_kept, run_ap (by rfl)]
    simp -implicitDefEqProofs [g_law_kept, n1, n2, n3, c, hs, hf, c1, lent, line, opTuple]
  · have n4 := next_ok ds3 0
    have h4 := Ok31.init h3
    generalize nxv ds3 = y4 at *
    generalize ds3.dropLast = ds4 at *
    obtain ⟨t, ht, ht2⟩ : ∃ t : Nat, y2 % 4 = (t : Int) ∧ t < 4 := ⟨(y2 % 4).toNat, by omega, by omega⟩
    obtain ⟨a, ha, ha2⟩ : ∃ a : Nat, y3 % 2 = (a : Int) ∧ a < 2 := ⟨(y3 % 2).toNat, by omega, by omega⟩
    obtain ⟨r, hr, hr2⟩ : ∃ r : Nat, y4 % 4 = (r : Int) ∧ r < 4 := ⟨(y4 % 4).toNat, by omega, by omega⟩
    have k2 : opAdd (.lst ((kb0.drop t).map D.str)) (.lst ((kb0.take t).map D.str)) = some (.lst ((kbT t).map D.str)) := by
      rw [opAdd, if_pos (by rw [List.length_map, List.length_map, List.length_drop, List.length_take]; unfold line kb0; simp; omega), kbT, List.map_append]
    have k3 : opCut (.lst (kb0.map D.str)) (some (t : Int)) none = some (.lst ((kb0.drop t).map D.str)) := by rw [opCut, cut_drop, List.map_drop]
    have k4 : opCut (.lst (kb0.map D.str)) none (some (t : Int)) = some (.lst ((kb0.take t).map D.str)) := by rw [opCut, cut_take, List.map_take]
    rw [show kb0.map D.str = [.str [97, 98], .str [97, 99], .str [98, 97], .str [99, 97]] from rfl] at k3 k4
    have c1 := eComp_go (g := .n 6) (ws := [6]) (it := iE (eV 3)) (f := x_law_kept_2) (ρ := [.io kk (drD ds4), .un, .un, .v (.lst ((kbT t).map D.str)), .v (.int (r : Int)), .v (.int (a : Int)), .un, .un]) (mkF a r) ((kbT t).map D.str) (by simp) (fun x hx => by
      obtain ⟨w, hw, rfl⟩ := List.mem_map.mp hx
      obtain ⟨w1, w2⟩ := kbT_w ht2 w hw
      have a1 : opAdd (.str w) (.str [100]) = some (.str (w ++ [100])) := opAdd_str (by unfold line; simp; omega)
      have a2 : opAdd (.str [100]) (.str w) = some (.str (100 :: w)) := opAdd_str (by unfold line; simp; omega)
      have hd : IsW 4 [100] := IsW.one (by decide) (by decide)
      have hv : IsW 4 (mkA a w) ∧ (mkA a w).length = 3 ∧ opIx (.lst [.str (w ++ [100]), .str (100 :: w)]) (.int (a : Int)) = some (.str (mkA a w)) := by
        have h2 : a = 0 ∨ a = 1 := by omega
        rcases h2 with rfl | rfl
        · exact ⟨IsW.app w1 hd, by simp [mkA, w2], rfl⟩
        · exact ⟨IsW.app hd w1, by simp [mkA, w2], rfl⟩
      have rn := renamed_ok hv.1 (by omega) r
      have ix := hv.2.2
      rw [mkF]
      generalize (mkA a w).map (ren r) = u at *
      generalize mkA a w = v at *
      generalize w ++ [100] = w1 at *
      generalize 100 :: w = w2 at *
      generalize (kbT t).map D.str = KB at *
      simp -implicitDefEqProofs [x_law_kept_2, a1, a2, ix, rn, line]) (by rw [List.length_map, kbT, List.length_append, List.length_drop, List.length_take]; unfold line kb0; simp; omega)
    have f1 : ((kbT t).map D.str).map (mkF a r) = (mkR t a r).map D.str := by rw [mkR, List.map_map, List.map_map]; rfl
    rw [f1] at c1
    refine ⟨3, _, ds4, .inr rfl, mkR_kr ht2 ha2 hr2, h4, ?_⟩
    generalize (mkR t a r).map D.str = R at *
    generalize (kbT t).map D.str = KB at *
    generalize (kb0.drop t).map D.str = A at *
    generalize (kb0.take t).map D.str = B at *
    rw [s_law_kept, run_ap (by rfl)]
    simp -implicitDefEqProofs [g_law_kept, n1, n2, n3, n4, c, ht, ha, hr, k2, k3, k4, c1, lent, line, opTuple]
theorem law_longer_ok {n : Nat} (hn : n ≤ 100) {ws : List (List Nat)} (h : IsWs 4 n ws) (hl : ws.length ≤ 2000) : s_law_longer [.v (.lst (ws.map D.str))] = .ok (.v (.lst ((longer 4 ws).map D.str))) [.v (.lst (ws.map D.str))] := by
  have key := forL_at (g := .n 2) (ks := [2]) (b := b_law_longer_1) (fun i => [.v (.lst (ws.map D.str)), .v (.lst ((longer 4 (ws.take i)).map D.str)), .un, .un]) (ws.map D.str) (fun j x hx => by
    rw [List.getElem?_map] at hx
    cases e : ws[j]? with
    | none => rw [e] at hx; cases hx
    | some w =>
      rw [e] at hx
      obtain rfl := Option.some.inj hx
      obtain ⟨h1, h2⟩ := h.ok w (List.mem_of_getElem? e)
      have et : ws.take (j + 1) = ws.take j ++ [w] := by rw [List.take_succ, e]; rfl
      have c1 := eComp_if (g := .n 3) (ws := [3]) (it := iE (eC (.str [97, 98, 99, 100]))) (c := val (eCall s_law_ends_free (aCons (e2 opAdd (eV 2) (eV 3)) aNil))) (f := e2 opAdd (eV 2) (eV 3)) (ρ := [.v (.lst (ws.map D.str)), .v (.lst ((longer 4 (ws.take j)).map D.str)), .v (.str w), .un])
        (fun d => match d with | .str s => efree (w ++ s) | _ => false) (fun d => match d with | .str s => .str (w ++ s) | d => d) ((lets 4).map fun c => D.str [c]) (by simp [lets]) (fun x hx => by
          obtain ⟨c, hc, rfl⟩ := List.mem_map.mp hx
          have hc2 := lets_w (m := 4) (by decide) c hc
          have ad : opAdd (.str w) (.str [c]) = some (.str (w ++ [c])) := opAdd_str (by unfold line; simp; omega)
          have ef := ends_free_ok (w := w ++ [c]) (IsW.app h1 (IsW.one hc2.1 hc2.2)) (by simp; omega)
          dsimp only
          generalize efree (w ++ [c]) = z at *
          generalize w ++ [c] = wc at *
          refine ⟨?_, fun h => ?_⟩
          · simp -implicitDefEqProofs [ad, ef]
          · simp -implicitDefEqProofs [ad, ef, h]) (by have := lets_len 4; rw [List.length_map]; unfold line; omega)
      have f1 : (((lets 4).map fun c => D.str [c]).filter (fun d => match d with | .str s => efree (w ++ s) | _ => false)).map (fun d => match d with | .str s => D.str (w ++ s) | d => d) = (lt1 w (lets 4)).map D.str := by
        rw [List.filter_map, List.map_map, lt1, List.map_map]; rfl
      rw [f1] at c1
      have l1 : longer 4 (ws.take (j + 1)) = longer 4 (ws.take j) ++ lt1 w (lets 4) := by rw [et, longer_app]; simp [longer]
      have l2 := longer_len 4 (ws.take j)
      have l3 := lt1_len w (lets 4)
      have l4 := lets_len 4
      have l5 : (ws.take j).length ≤ ws.length := by rw [List.length_take]; omega
      rw [l1, List.map_append]
      have ln : ((longer 4 (ws.take j)).map D.str).length + ((lt1 w (lets 4)).map D.str).length ≤ 16777216 := by rw [List.length_map, List.length_map]; omega
      generalize (longer 4 (ws.take j)).map D.str = L1 at *
      generalize (lt1 w (lets 4)).map D.str = L2 at *
      have ad2 : opAdd (.lst L1) (.lst L2) = some (.lst (L1 ++ L2)) := by
        simp [opAdd, line, ln]
      simp -implicitDefEqProofs [b_law_longer_1, c1, ad2])
  rw [List.length_map, List.take_length] at key
  rw [s_law_longer, run_ap (by rfl)]
  generalize (longer 4 ws).map D.str = R at *
  have e0 : (longer 4 []).map D.str = [] := rfl
  rw [List.take_zero, e0] at key
  simp -implicitDefEqProofs [g_law_longer, key, lent]
theorem looked_list : s_law_looked [] = .ok (.v (.lst ((gones 4 3).map D.str))) [] := by
  have r3 := inR_of (show (-1000000000 : Int) ≤ 3 by decide) (by decide)
  have key := forL_at (g := .n 2) (ks := [2]) (b := b_law_looked_1) (fun i => [.v (.lst ((gones 4 (min i 3)).map D.str)), .v (.lst ((frees 4 (min i 3)).map D.str)), .un]) (rng 0 ((3 : Nat) : Int)) (fun j x hx => by
    obtain ⟨rfl, hj⟩ := rng_get0 hx
    have hj3 : j < 3 := by omega
    rw [Nat.min_eq_left (by omega), Nat.min_eq_left (by omega)]
    have g1 := gle3 (j := j) (by omega)
    have g2 := gle3 (j := j + 1) (by omega)
    have gl := gones_len 4 j
    have fl : (frees 4 j).length ≤ 800 := by
      match j with
      | 0 => simp [frees]
      | j + 1 =>
        have := gones_len 4 j
        omega
    have lo := law_longer_ok (n := j) (by omega) (frees_ok (by decide) j) (by omega)
    rw [show longer 4 (frees 4 j) = frees 4 (j + 1) from rfl] at lo
    have ad : opAdd (.lst ((gones 4 j).map D.str)) (.lst ((frees 4 (j + 1)).map D.str)) = some (.lst ((gones 4 (j + 1)).map D.str)) := by
      rw [opAdd, if_pos (by rw [List.length_map, List.length_map]; unfold line; omega), gones, List.map_append]
    generalize (frees 4 j).map D.str = A at *
    generalize (frees 4 (j + 1)).map D.str = B at *
    generalize (gones 4 j).map D.str = G at *
    generalize (gones 4 (j + 1)).map D.str = G1 at *
    simp -implicitDefEqProofs [b_law_looked_1, lo, ad])
  rw [rng_len, show ((3 : Nat) : Int) = 3 from rfl] at key
  rw [show min 0 3 = 0 from rfl, show min ((3 : Int) - 0).toNat 3 = 3 from rfl, show (gones 4 0).map D.str = [] from rfl, show (frees 4 0).map D.str = [.str []] from rfl] at key
  generalize (gones 4 3).map D.str = G at *
  generalize (frees 4 3).map D.str = F at *
  rw [s_law_looked, run_ap (by rfl)]
  simp -implicitDefEqProofs [g_law_looked, r3, key, lent, line]
theorem put_ok {m b : Nat} {rs : List (List Nat)} (hr : IsR m b rs) (hm : m ≤ 4) (hb : b ≤ 1000) {w : List Nat} (hw : IsW m w) (hl : w.length ≤ 10000) : s_law_put [.v (.tup (rs.map D.str)), .v (.str w)] = .ok (.v (.str (img rs w))) [.v (.tup (rs.map D.str)), .v (.str w)] := by
  have c1 := eComp_go (g := .n 2) (ws := [2]) (it := iE (eV 1)) (f := x_law_put_1) (ρ := [.v (.tup (rs.map D.str)), .v (.str w), .un]) (fun d => match d with | .str [c] => .str (rs.getD (c - 97) []) | d => d) (w.map fun c => D.str [c]) (by simp) (fun x hx => by
    obtain ⟨c, hc, rfl⟩ := List.mem_map.mp hx
    obtain ⟨h1, h2⟩ := hw c hc
    have e1 := abcd_no h1 h2 hm
    have e2 := ix_rule hr.len h1 h2
    dsimp only
    generalize rs.getD (c - 97) [] = v at *
    generalize ((c - 97 : Nat) : Int) = k at *
    generalize rs.map D.str = R at *
    simp -implicitDefEqProofs [x_law_put_1, e1, e2]) (by rw [List.length_map]; unfold line; omega)
  have e1 : (w.map fun c => D.str [c]).map (fun d => match d with | .str [c] => .str (rs.getD (c - 97) []) | d => d) = (imgs rs w).map D.str := by
    rw [imgs, List.map_map, List.map_map]; rfl
  rw [e1] at c1
  have hs := imgs_sum hr hw
  have hx : w.length * b ≤ 10000 * 1000 := Nat.mul_le_mul hl hb
  have jn := join_ok (imgs rs w) (by unfold line; omega)
  unfold img
  generalize (imgs rs w).flatten = F at *
  generalize (imgs rs w).map D.str = I at *
  generalize rs.map D.str = R at *
  rw [s_law_put, run_ap (by rfl)]
  simp -implicitDefEqProofs [g_law_put, c1, jn, lent]
def imF (ls : List (List Nat)) : D → D
  | .str w => .str (img ls w)
  | d => d
theorem imF_map (fs ls : List (List Nat)) : (fs.map D.str).map (imF ls) = (comp fs ls).map D.str := by rw [comp, List.map_map, List.map_map]; rfl
theorem behind_ok {a b : Nat} {fs ls : List (List Nat)} (hf : IsR 4 a fs) (hl : IsR 4 b ls) (hab : a * b ≤ 100) (ha : a ≤ 100) : s_behind [.v (.tup (fs.map D.str)), .v (.tup (ls.map D.str))] = .ok (.v (.tup ((comp fs ls).map D.str))) [.v (.tup (fs.map D.str)), .v (.tup (ls.map D.str))] := by
  have c1 := eComp_go (g := .n 2) (ws := [2]) (it := iE (eV 0)) (f := x_behind_1) (ρ := [.v (.tup (fs.map D.str)), .v (.tup (ls.map D.str)), .un]) (imF ls) (fs.map D.str) (by simp) (fun x hx => by
    obtain ⟨w, hw, rfl⟩ := List.mem_map.mp hx
    obtain ⟨h1, _, h3⟩ := hf.ok w hw
    have hs := imgs_sum hl h1
    have hx : w.length * b ≤ a * b := Nat.mul_le_mul_right b h3
    have e := within_ok hl (by decide) h1 100 (by omega) (by decide) (by unfold line; omega)
    rw [show ((100 : Nat) : Int) = 100 from rfl] at e
    rw [imF]
    generalize img ls w = v at *
    generalize fs.map D.str = F at *
    generalize ls.map D.str = L at *
    simp -implicitDefEqProofs [x_behind_1, c_MOST_WORD_rules, e]) (by rw [List.length_map, hf.len]; decide)
  rw [imF_map] at c1
  generalize (comp fs ls).map D.str = C at *
  rw [s_behind, run_ap (by rfl)]
  simp -implicitDefEqProofs [g_behind, c1, lent, opTuple]
def keepD (m n : Nat) : D := .tup [.str [107, 101, 101, 112, 115], .lst ((gones m n).map D.str)]
theorem gones_w {m : Nat} (hm : m ≤ 4) : ∀ n, ∀ w ∈ gones m n, IsW m w
  | 0, w, h => by cases h
  | n + 1, w, h => by
    rw [gones] at h
    rcases List.mem_append.mp h with q | q
    · exact gones_w hm n w q
    · exact ((frees_ok hm (n + 1)).ok w q).1
theorem pl_ws {ws : List (List Nat)} {m : Nat} (hm : m ≤ 4) (n : Nat) (h : ∀ w ∈ ws, IsW m w) : Pl (n + 1) (.lst (ws.map D.str)) := .lst n _ fun x hx => by
  obtain ⟨w, hw, rfl⟩ := List.mem_map.mp hx
  exact .str _ _ ((h w hw).ok hm)
theorem same_keep {m n : Nat} (hm : m ≤ 4) : s_law_same 5 [.v (keepD m n), .v (keepD m n)] = .ok (.v (.bl true)) [.v (keepD m n), .v (keepD m n)] :=
  same_ok (.tup 3 _ fun y hy => by
    simp only [List.mem_cons, List.not_mem_nil, or_false] at hy
    rcases hy with rfl | rfl
    · exact .str _ _ (by decide)
    · exact pl_ws hm 2 (gones_w hm n))
theorem same_rule {m b : Nat} (hm : m ≤ 4) {rs : List (List Nat)} (hr : IsR m b rs) : s_law_same 5 [.v (.tup (rs.map D.str)), .v (.tup (rs.map D.str))] = .ok (.v (.bl true)) [.v (.tup (rs.map D.str)), .v (.tup (rs.map D.str))] :=
  same_ok (.tup 3 _ fun x hx => by
    obtain ⟨w, hw, rfl⟩ := List.mem_map.mp hx
    exact .str _ _ ((hr.ok w hw).1.ok hm))
theorem same_str {w : List Nat} (hw : IsW 4 w) : s_law_same 5 [.v (.str w), .v (.str w)] = .ok (.v (.bl true)) [.v (.str w), .v (.str w)] := same_ok (.str 4 _ (hw.ok (by decide)))
theorem Kr.keeps {b : Nat} {rs : List (List Nat)} (h : Kr b rs) (hb : 1 ≤ b) (hb2 : b ≤ 12) : s_keeps [.v (.tup (rs.map D.str))] = .ok (.v (keepD 4 3)) [.v (.tup (rs.map D.str))] := by
  have := (keeps_ok (IsR.wide h.r hb2) (by decide) (by decide)).1 (by rw [h.lk hb]; exact h.k)
  rw [h.lk hb] at this
  exact this
theorem law_holds (ns : List Int) (hl : ns.length ≤ 63) : ∃ as, s_law [.v (.scr (ns.map D.int))] = .ok (.v (.bl true)) as := by
  obtain ⟨ds0, h0, e0⟩ := draws_ok ns hl
  obtain ⟨a, fs, ds1, ha, hf, h1, e1⟩ := kept_ok ds0 h0 0
  obtain ⟨b, ls, ds2, hb, hl2, h2, e2⟩ := kept_ok ds1 h1 0
  have ha1 : 1 ≤ a := by omega
  have ha3 : a ≤ 3 := by omega
  have hb1 : 1 ≤ b := by omega
  have hb3 : b ≤ 3 := by omega
  have hab : a * b ≤ 3 * 3 := Nat.mul_le_mul ha3 hb3
  have hab1 : 1 * 1 ≤ a * b := Nat.mul_le_mul ha1 hb1
  have hc := hf.comp hl2 ha1 (by omega) hb1 (by omega)
  have bh := behind_ok hf.r hl2.r (by omega) (by omega)
  have lo := looked_list
  have sr := same_rule (by decide) hc.r
  have kf := hf.keeps ha1 (by omega)
  have kl := hl2.keeps hb1 (by omega)
  have kc := hc.keeps (by omega) (by omega)
  have sk := same_keep (m := 4) (n := 3) (by decide)
  obtain ⟨w, ds3, w1, w2, w3, w4, h3, e3⟩ := dfree_ok ds2 h2 0 4 31 0 (by decide) (by decide) (by decide) (fun w hw => by omega)
  rw [show ((31 : Nat) : Int) = 31 from rfl, show ((4 : Nat) : Int) = 4 from rfl] at e3
  have hx : w.length * (a * b) ≤ 31 * 9 := Nat.mul_le_mul (by omega) (by omega)
  have hx2 : w.length * a ≤ 31 * 3 := Nat.mul_le_mul (by omega) (by omega)
  have im := image_ok hc.r (by decide) w1 (by omega) (by unfold line; omega)
  have il := img_len hc.r w1
  have il2 := img_len hf.r w1
  have ff := hc.free (by omega) (by omega) w1 w2
  have fw := img_w hf.r w1
  have p1 := put_ok hf.r (by decide) (by omega) w1 (by omega)
  have p2 := put_ok hl2.r (by decide) (by omega) fw (by omega)
  have cw := img_w hc.r w1
  have db := double_ok cw (by omega)
  rw [rep_none.mpr ff, repD] at db
  rw [img_comp hf.r w1] at im db cw
  have ss := same_str cw
  have pc := eComp_go (g := .n 7) (ws := [7]) (it := iE (eV 2)) (f := val (eCall s_law_put (aCons (eV 3) (aCons (eV 7) aNil)))) (ρ := [.v (.scr (ns.map D.int)), .o (drD ds2), .v (.tup (fs.map D.str)), .v (.tup (ls.map D.str)), .v (.tup ((comp fs ls).map D.str)), .v (keepD 4 3), .un, .un, .un]) (imF ls) (fs.map D.str) (by simp) (fun x hx => by
    obtain ⟨v, hv, rfl⟩ := List.mem_map.mp hx
    obtain ⟨v1, _, v3⟩ := hf.r.ok v hv
    have e := put_ok hl2.r (by decide) (by omega) v1 (by omega)
    rw [imF]
    generalize img ls v = u at *
    generalize (comp fs ls).map D.str = C at *
    generalize fs.map D.str = F at *
    generalize ls.map D.str = L at *
    simp -implicitDefEqProofs [e]) (by rw [List.length_map, hf.r.len]; decide)
  rw [imF_map] at pc
  have lp : forL (.n 6) [6] b_law_1 [.tup (fs.map D.str), .tup (ls.map D.str), .tup ((comp fs ls).map D.str)] [.v (.scr (ns.map D.int)), .o (drD ds2), .v (.tup (fs.map D.str)), .v (.tup (ls.map D.str)), .v (.tup ((comp fs ls).map D.str)), .v (keepD 4 3), .un, .un, .un] = .ok .nx [.v (.scr (ns.map D.int)), .o (drD ds2), .v (.tup (fs.map D.str)), .v (.tup (ls.map D.str)), .v (.tup ((comp fs ls).map D.str)), .v (keepD 4 3), .un, .un, .un] := by
    have bd : ∀ {X : D}, s_keeps [.v X] = .ok (.v (keepD 4 3)) [.v X] → b_law_1 [.v (.scr (ns.map D.int)), .o (drD ds2), .v (.tup (fs.map D.str)), .v (.tup (ls.map D.str)), .v (.tup ((comp fs ls).map D.str)), .v (keepD 4 3), .v X, .un, .un] = .ok .nx [.v (.scr (ns.map D.int)), .o (drD ds2), .v (.tup (fs.map D.str)), .v (.tup (ls.map D.str)), .v (.tup ((comp fs ls).map D.str)), .v (keepD 4 3), .v X, .un, .un] := fun {X} k => by
      generalize keepD 4 3 = KD at *
      generalize (comp fs ls).map D.str = C at *
      generalize fs.map D.str = F at *
      generalize ls.map D.str = L at *
      simp -implicitDefEqProofs [b_law_1, k, sk]
    rw [forL_nx (ρ1 := [.v (.scr (ns.map D.int)), .o (drD ds2), .v (.tup (fs.map D.str)), .v (.tup (ls.map D.str)), .v (.tup ((comp fs ls).map D.str)), .v (keepD 4 3), .v (.tup (fs.map D.str)), .un, .un]) rfl (bd kf)]
    simp only [wipe_cons, wipe_nil, List.set_cons_succ, List.set_cons_zero]
    rw [forL_nx (ρ1 := [.v (.scr (ns.map D.int)), .o (drD ds2), .v (.tup (fs.map D.str)), .v (.tup (ls.map D.str)), .v (.tup ((comp fs ls).map D.str)), .v (keepD 4 3), .v (.tup (ls.map D.str)), .un, .un]) rfl (bd kl)]
    simp only [wipe_cons, wipe_nil, List.set_cons_succ, List.set_cons_zero]
    rw [forL_nx (ρ1 := [.v (.scr (ns.map D.int)), .o (drD ds2), .v (.tup (fs.map D.str)), .v (.tup (ls.map D.str)), .v (.tup ((comp fs ls).map D.str)), .v (keepD 4 3), .v (.tup ((comp fs ls).map D.str)), .un, .un]) rfl (bd kc)]
    simp only [wipe_cons, wipe_nil, List.set_cons_succ, List.set_cons_zero]
    rw [forL_nil]
  refine ⟨[.v (.scr (ns.map D.int))], ?_⟩
  rw [s_law, run_ap (by rfl)]
  unfold keepD at *
  generalize (gones 4 3).map D.str = G at *
  generalize img ls (img fs w) = u at *
  generalize img fs w = v at *
  generalize (comp fs ls).map D.str = C at *
  generalize fs.map D.str = F at *
  generalize ls.map D.str = L at *
  simp -implicitDefEqProofs [g_law, e0, e1, e2, bh, lo, pc, sr, lp, e3, im, p1, p2, ss, db, opTuple, opIsN, lent, line]
end NV.K65

set_option Elab.async false
set_option linter.all false
set_option maxRecDepth 100000
set_option maxHeartbeats 4000000
/-! k65_whole_behind_keeps: the walk. -/
namespace NV.K65
open PySem PySem.Spec PyProof.Rows L2 NV
def topS (i : Nat) : Stmt := PySem.Challenge.pw_neveragain_k65_whole_behind_keeps.main.body.getD i (.Pass ⟨0, 0, 0, 0⟩)
abbrev t_law_draws : Stmt := topS 25
theorem sc_law_draws : FnScope ["_law_script", "_law_cells", "_law_by_digits", "_law_left", "_law_found", "_law_k", "_law_at", "_law_number"] ["_law_script"] (defScope t_law_draws) := ⟨rfl, rfl, rfl, by decide +kernel, rfl, by decide +kernel, by decide +kernel⟩
abbrev t_law_next : Stmt := topS 26
theorem sc_law_next : FnScope ["_law_drawn"] ["_law_drawn"] (defScope t_law_next) := ⟨rfl, rfl, rfl, by decide +kernel, rfl, by decide +kernel, by decide +kernel⟩
abbrev t_law_renamed : Stmt := topS 33
theorem sc_law_renamed : FnScope ["_law_word", "_law_turn", "_law_sign"] ["_law_word", "_law_turn"] (defScope t_law_renamed) := ⟨rfl, rfl, rfl, by decide +kernel, rfl, by decide +kernel, by decide +kernel⟩
abbrev t_law_kept : Stmt := topS 34
theorem sc_law_kept : FnScope ["_law_drawn", "_law_step", "_law_first", "_law_words", "_law_turn", "_law_ahead", "_law_word", "_law_k"] ["_law_drawn"] (defScope t_law_kept) := ⟨rfl, rfl, rfl, by decide +kernel, rfl, by decide +kernel, by decide +kernel⟩
abbrev t_number_of : Stmt := topS 9
theorem sc_number_of : FnScope ["letter"] ["letter"] (defScope t_number_of) := ⟨rfl, rfl, rfl, by decide +kernel, rfl, by decide +kernel, by decide +kernel⟩
abbrev t_image_within : Stmt := topS 13
theorem sc_image_within : FnScope ["rule", "word", "most", "parts", "sign", "part"] ["rule", "word", "most"] (defScope t_image_within) := ⟨rfl, rfl, rfl, by decide +kernel, rfl, by decide +kernel, by decide +kernel⟩
abbrev t_behind : Stmt := topS 15
theorem sc_behind : FnScope ["first", "later", "word"] ["first", "later"] (defScope t_behind) := ⟨rfl, rfl, rfl, by decide +kernel, rfl, by decide +kernel, by decide +kernel⟩
abbrev t_law_ends_free : Stmt := topS 30
theorem sc_law_ends_free : FnScope ["_law_word", "_law_size", "_law_half", "_law_last"] ["_law_word"] (defScope t_law_ends_free) := ⟨rfl, rfl, rfl, by decide +kernel, rfl, by decide +kernel, by decide +kernel⟩
abbrev t_law_free : Stmt := topS 32
theorem sc_law_free : FnScope ["_law_drawn", "_law_many", "_law_size", "_law_word", "_law_turn", "_law_number", "_law_some", "_law_k", "_law_letter"] ["_law_drawn", "_law_many", "_law_size"] (defScope t_law_free) := ⟨rfl, rfl, rfl, by decide +kernel, rfl, by decide +kernel, by decide +kernel⟩
abbrev t_image : Stmt := topS 14
theorem sc_image : FnScope ["rule", "word"] ["rule", "word"] (defScope t_image) := ⟨rfl, rfl, rfl, by decide +kernel, rfl, by decide +kernel, by decide +kernel⟩
abbrev t_law_longer : Stmt := topS 36
theorem sc_law_longer : FnScope ["_law_words", "_law_found", "_law_word", "_law_letter"] ["_law_words"] (defScope t_law_longer) := ⟨rfl, rfl, rfl, by decide +kernel, rfl, by decide +kernel, by decide +kernel⟩
abbrev t_law_looked : Stmt := topS 37
theorem sc_law_looked : FnScope ["_law_gone", "_law_fresh", "_law_turn"] [] (defScope t_law_looked) := ⟨rfl, rfl, rfl, by decide +kernel, rfl, by decide +kernel, by decide +kernel⟩
abbrev t_law_whole : Stmt := topS 27
theorem sc_law_whole : FnScope ["_law_found"] ["_law_found"] (defScope t_law_whole) := ⟨rfl, rfl, rfl, by decide +kernel, rfl, by decide +kernel, by decide +kernel⟩
abbrev t_law_all_same : Stmt := topS 29
theorem sc_law_all_same : FnScope ["_law_found", "_law_due", "_law_one", "_law_other"] ["_law_found", "_law_due"] (defScope t_law_all_same) := ⟨rfl, rfl, rfl, by decide +kernel, rfl, by decide +kernel, by decide +kernel⟩
abbrev t_law_same : Stmt := topS 28
theorem sc_law_same : FnScope ["_law_found", "_law_due"] ["_law_found", "_law_due"] (defScope t_law_same) := ⟨rfl, rfl, rfl, by decide +kernel, rfl, by decide +kernel, by decide +kernel⟩
abbrev t_law_put : Stmt := topS 35
theorem sc_law_put : FnScope ["_law_rule", "_law_word", "_law_sign"] ["_law_rule", "_law_word"] (defScope t_law_put) := ⟨rfl, rfl, rfl, by decide +kernel, rfl, by decide +kernel, by decide +kernel⟩
abbrev t_law_double : Stmt := topS 31
theorem sc_law_double : FnScope ["_law_word", "_law_end", "_law_half", "_law_begin"] ["_law_word"] (defScope t_law_double) := ⟨rfl, rfl, rfl, by decide +kernel, rfl, by decide +kernel, by decide +kernel⟩
abbrev t_looked_length : Stmt := topS 22
theorem sc_looked_length : FnScope ["rule", "longest", "shortest", "word"] ["rule"] (defScope t_looked_length) := ⟨rfl, rfl, rfl, by decide +kernel, rfl, by decide +kernel, by decide +kernel⟩
abbrev t_letters : Stmt := topS 8
theorem sc_letters : FnScope ["many"] ["many"] (defScope t_letters) := ⟨rfl, rfl, rfl, by decide +kernel, rfl, by decide +kernel, by decide +kernel⟩
abbrev t_ends_free : Stmt := topS 20
theorem sc_ends_free : FnScope ["word", "size", "half"] ["word"] (defScope t_ends_free) := ⟨rfl, rfl, rfl, by decide +kernel, rfl, by decide +kernel, by decide +kernel⟩
abbrev t_made_longer : Stmt := topS 21
theorem sc_made_longer : FnScope ["words", "many", "found", "word", "letter"] ["words", "many"] (defScope t_made_longer) := ⟨rfl, rfl, rfl, by decide +kernel, rfl, by decide +kernel, by decide +kernel⟩
abbrev t_least_breaking : Stmt := topS 4
theorem sc_least_breaking : FnScope ["limit", "period", "top", "bottom", "above", "length"] ["limit", "period"] (defScope t_least_breaking) := ⟨rfl, rfl, rfl, by decide +kernel, rfl, by decide +kernel, by decide +kernel⟩
abbrev t_repeat_in : Stmt := topS 5
theorem sc_repeat_in : FnScope ["word", "limit", "wanted", "alike", "end", "sign", "period", "length"] ["word", "limit"] (defScope t_repeat_in) := ⟨rfl, rfl, rfl, by decide +kernel, rfl, by decide +kernel, by decide +kernel⟩
abbrev t_keeps : Stmt := topS 23
theorem sc_keeps : FnScope ["rule", "gone", "fresh", "size", "word", "repeat"] ["rule"] (defScope t_keeps) := ⟨rfl, rfl, rfl, by decide +kernel, rfl, by decide +kernel, by decide +kernel⟩
abbrev t_law : Stmt := topS 38
theorem sc_law : FnScope ["_law_script", "_law_drawn", "_law_first", "_law_later", "_law_both", "_law_due", "_law_rule", "_law_word", "_law_found"] ["_law_script"] (defScope t_law) := ⟨rfl, rfl, rfl, by decide +kernel, rfl, by decide +kernel, by decide +kernel⟩
structure Tab (K : PySem.W.Frag) (mg : Str → Option Value) where
  a_law_draws : Addr
  d_law_draws : FuncData
  F_law_draws : Fun K "_law_draws" "_law_draws" t_law_draws a_law_draws d_law_draws
  b_law_draws : Binds K d_law_draws ["_law_script"] []
  g_law_draws : mg "_law_draws" = some (.ref a_law_draws)
  a_law_next : Addr
  d_law_next : FuncData
  F_law_next : Fun K "_law_next" "_law_next" t_law_next a_law_next d_law_next
  b_law_next : Binds K d_law_next ["_law_drawn"] []
  g_law_next : mg "_law_next" = some (.ref a_law_next)
  a_law_renamed : Addr
  d_law_renamed : FuncData
  F_law_renamed : Fun K "_law_renamed" "_law_renamed" t_law_renamed a_law_renamed d_law_renamed
  b_law_renamed : Binds K d_law_renamed ["_law_word", "_law_turn"] []
  g_law_renamed : mg "_law_renamed" = some (.ref a_law_renamed)
  a_law_kept : Addr
  d_law_kept : FuncData
  F_law_kept : Fun K "_law_kept" "_law_kept" t_law_kept a_law_kept d_law_kept
  b_law_kept : Binds K d_law_kept ["_law_drawn"] []
  g_law_kept : mg "_law_kept" = some (.ref a_law_kept)
  a_number_of : Addr
  d_number_of : FuncData
  F_number_of : Fun K "number_of" "number_of" t_number_of a_number_of d_number_of
  b_number_of : Binds K d_number_of ["letter"] []
  g_number_of : mg "number_of" = some (.ref a_number_of)
  a_image_within : Addr
  d_image_within : FuncData
  F_image_within : Fun K "image_within" "image_within" t_image_within a_image_within d_image_within
  b_image_within : Binds K d_image_within ["rule", "word", "most"] []
  g_image_within : mg "image_within" = some (.ref a_image_within)
  a_behind : Addr
  d_behind : FuncData
  F_behind : Fun K "behind" "behind" t_behind a_behind d_behind
  b_behind : Binds K d_behind ["first", "later"] []
  g_behind : mg "behind" = some (.ref a_behind)
  a_law_ends_free : Addr
  d_law_ends_free : FuncData
  F_law_ends_free : Fun K "_law_ends_free" "_law_ends_free" t_law_ends_free a_law_ends_free d_law_ends_free
  b_law_ends_free : Binds K d_law_ends_free ["_law_word"] []
  g_law_ends_free : mg "_law_ends_free" = some (.ref a_law_ends_free)
  a_law_free : Addr
  d_law_free : FuncData
  F_law_free : Fun K "_law_free" "_law_free" t_law_free a_law_free d_law_free
  b_law_free : Binds K d_law_free ["_law_drawn", "_law_many", "_law_size"] []
  g_law_free : mg "_law_free" = some (.ref a_law_free)
  a_image : Addr
  d_image : FuncData
  F_image : Fun K "image" "image" t_image a_image d_image
  b_image : Binds K d_image ["rule", "word"] []
  g_image : mg "image" = some (.ref a_image)
  a_law_longer : Addr
  d_law_longer : FuncData
  F_law_longer : Fun K "_law_longer" "_law_longer" t_law_longer a_law_longer d_law_longer
  b_law_longer : Binds K d_law_longer ["_law_words"] []
  g_law_longer : mg "_law_longer" = some (.ref a_law_longer)
  a_law_looked : Addr
  d_law_looked : FuncData
  F_law_looked : Fun K "_law_looked" "_law_looked" t_law_looked a_law_looked d_law_looked
  b_law_looked : Binds K d_law_looked [] []
  g_law_looked : mg "_law_looked" = some (.ref a_law_looked)
  a_law_whole : Addr
  d_law_whole : FuncData
  F_law_whole : Fun K "_law_whole" "_law_whole" t_law_whole a_law_whole d_law_whole
  b_law_whole : Binds K d_law_whole ["_law_found"] []
  g_law_whole : mg "_law_whole" = some (.ref a_law_whole)
  a_law_all_same : Addr
  d_law_all_same : FuncData
  F_law_all_same : Fun K "_law_all_same" "_law_all_same" t_law_all_same a_law_all_same d_law_all_same
  b_law_all_same : Binds K d_law_all_same ["_law_found", "_law_due"] []
  g_law_all_same : mg "_law_all_same" = some (.ref a_law_all_same)
  a_law_same : Addr
  d_law_same : FuncData
  F_law_same : Fun K "_law_same" "_law_same" t_law_same a_law_same d_law_same
  b_law_same : Binds K d_law_same ["_law_found", "_law_due"] []
  g_law_same : mg "_law_same" = some (.ref a_law_same)
  a_law_put : Addr
  d_law_put : FuncData
  F_law_put : Fun K "_law_put" "_law_put" t_law_put a_law_put d_law_put
  b_law_put : Binds K d_law_put ["_law_rule", "_law_word"] []
  g_law_put : mg "_law_put" = some (.ref a_law_put)
  a_law_double : Addr
  d_law_double : FuncData
  F_law_double : Fun K "_law_double" "_law_double" t_law_double a_law_double d_law_double
  b_law_double : Binds K d_law_double ["_law_word"] []
  g_law_double : mg "_law_double" = some (.ref a_law_double)
  a_looked_length : Addr
  d_looked_length : FuncData
  F_looked_length : Fun K "looked_length" "looked_length" t_looked_length a_looked_length d_looked_length
  b_looked_length : Binds K d_looked_length ["rule"] []
  g_looked_length : mg "looked_length" = some (.ref a_looked_length)
  a_letters : Addr
  d_letters : FuncData
  F_letters : Fun K "letters" "letters" t_letters a_letters d_letters
  b_letters : Binds K d_letters ["many"] []
  g_letters : mg "letters" = some (.ref a_letters)
  a_ends_free : Addr
  d_ends_free : FuncData
  F_ends_free : Fun K "ends_free" "ends_free" t_ends_free a_ends_free d_ends_free
  b_ends_free : Binds K d_ends_free ["word"] []
  g_ends_free : mg "ends_free" = some (.ref a_ends_free)
  a_made_longer : Addr
  d_made_longer : FuncData
  F_made_longer : Fun K "made_longer" "made_longer" t_made_longer a_made_longer d_made_longer
  b_made_longer : Binds K d_made_longer ["words", "many"] []
  g_made_longer : mg "made_longer" = some (.ref a_made_longer)
  a_least_breaking : Addr
  d_least_breaking : FuncData
  F_least_breaking : Fun K "least_breaking" "least_breaking" t_least_breaking a_least_breaking d_least_breaking
  b_least_breaking : Binds K d_least_breaking ["limit", "period"] []
  g_least_breaking : mg "least_breaking" = some (.ref a_least_breaking)
  a_repeat_in : Addr
  d_repeat_in : FuncData
  F_repeat_in : Fun K "repeat_in" "repeat_in" t_repeat_in a_repeat_in d_repeat_in
  b_repeat_in : Binds K d_repeat_in ["word", "limit"] []
  g_repeat_in : mg "repeat_in" = some (.ref a_repeat_in)
  a_keeps : Addr
  d_keeps : FuncData
  F_keeps : Fun K "keeps" "keeps" t_keeps a_keeps d_keeps
  b_keeps : Binds K d_keeps ["rule"] []
  g_keeps : mg "keeps" = some (.ref a_keeps)
  a_law : Addr
  d_law : FuncData
  F_law : Fun K "law" "law" t_law a_law d_law
  b_law : Binds K d_law ["_law_script"] []
  g_law : mg "law" = some (.ref a_law)
  m_bool : mg "bool" = none
  m_enumerate : mg "enumerate" = none
  m_int : mg "int" = none
  m_isinstance : mg "isinstance" = none
  m_len : mg "len" = none
  m_list : mg "list" = none
  m_max : mg "max" = none
  m_min : mg "min" = none
  m_range : mg "range" = none
  m_str : mg "str" = none
  m_sum : mg "sum" = none
  m_tuple : mg "tuple" = none
  m_zip : mg "zip" = none
  c_DOUBLES : GTup K mg "DOUBLES" c_DOUBLES
  c_LETTERS : ∃ u, mg "LETTERS" = some u ∧ RelV (.str (ofL [97, 98, 99, 100])) u
  c_MOST_IMAGE : ∃ u, mg "MOST_IMAGE" = some u ∧ RelV (.int 20000) u
  c_MOST_LOOKED : ∃ u, mg "MOST_LOOKED" = some u ∧ RelV (.int 800) u
  c_MOST_WORD_keeping : ∃ u, mg "MOST_WORD_keeping" = some u ∧ RelV (.int 12) u
  c_MOST_WORD_rules : ∃ u, mg "MOST_WORD_rules" = some u ∧ RelV (.int 100) u
section
variable {P : Program} {w : World} {K : PySem.W.Frag} {mg : Str → Option Value} {base : Heap}
theorem ok_law_draws (T : Tab K mg) : FnOk P w K mg base (L2.CX P w) 1 T.a_law_draws T.d_law_draws ["_law_script"] (spD K Z0 1 s_law_draws) :=
  def_ok T.F_law_draws sc_law_draws rfl rfl fun cdv A outer s H E hr =>
    (rss_cons (rs_own 1 sc_law_draws.nd rfl (by first | exact .inl rfl | exact .inr rfl) (ro_cut (re_2 opd_add (re_t1 cd_list rfl T.m_list rfl (re_cut (gV 0) rp_none (rp_some re_int))) (re_lst (ra_cons re_int ra_nil))) rp_none (rp_some (re_b2 (cd_max2 rfl) rfl T.m_max rfl re_int (re_b2 (cd_min2 rfl) rfl T.m_min rfl (re_b1 cd_len rfl T.m_len rfl (gV 0)) re_int)))))
    (rss_cons (rs_set 2 sc_law_draws.nd rfl (by first | exact .inl rfl | exact .inr rfl) (re_thaw (re_cmp (opd_eq hr.units) (re_2 opd_mod (re_ix (hu_of hr) (gV 1) re_int) re_int) re_int (by rfl))))
    (rss_cons (rs_setIx 1 (hu_of hr) rfl (by first | exact Or.inl rfl | exact Or.inr (Or.inl rfl) | exact Or.inr (Or.inr rfl)) re_int (re_thaw (re_2 opd_div (re_ix (hu_of hr) (gV 1) re_int) re_int)))
    (rss_cons (rs_own 3 sc_law_draws.nd rfl (by first | exact .inl rfl | exact .inr rfl) (ro_frz 1 (ro_list rfl T.m_list (gV 1))))
    (rss_cons (rs_own 4 sc_law_draws.nd rfl (by first | exact .inl rfl | exact .inr rfl) (ro_lst ra_nil))
    (rss_cons (rs_for (A := b_law_draws_1) [5, 6, 7] (passes_of rfl) rfl (ri_r1 rfl T.m_range re_int) (rg_name 5 sc_law_draws.nd rfl (by first | exact .inl rfl | exact .inr rfl))
    (rss_cons (rs_set 6 sc_law_draws.nd rfl (by first | exact .inl rfl | exact .inr rfl) (re_thaw (re_2 opd_mod (gV 5) (re_b1 cd_len rfl T.m_len rfl (gV 1)))))
    (rss_cons (rs_set 7 sc_law_draws.nd rfl (by first | exact .inl rfl | exact .inr rfl) (re_thaw (re_2 opd_mod (re_ix (hu_of hr) (gV 3) (gV 6)) re_int)))
    (rss_cons (rs_if (rt_thaw (rt_w (rw_and (rt_val (gV 2)) (rw_and1 (rt_cmp (opd_notIn (hu_of hr)) (re_ix (hu_of hr) (gV 3) (gV 6)) (re_lst (ra_cons re_int (ra_cons (re_un und_neg re_int) ra_nil))) (by rfl))))))
    (rss_one (rs_setIx 3 (hu_of hr) rfl (by first | exact Or.inl rfl | exact Or.inr (Or.inl rfl) | exact Or.inr (Or.inr rfl)) (gV 6) (re_thaw (re_2 opd_div (re_ix (hu_of hr) (gV 3) (gV 6)) re_int)))) (rss_cons (rs_set 7 sc_law_draws.nd rfl (by first | exact .inl rfl | exact .inr rfl) (re_thaw (re_2 opd_mod (re_2 opd_add (re_2 opd_add (re_2 opd_mul (re_2 opd_mod (re_ix (hu_of hr) (gV 1) (gV 6)) re_int) re_int) (re_2 opd_mul (re_2 opd_mul re_int (gV 5)) (gV 5))) re_int) re_int)))
    (rss_cons (rs_set 7 sc_law_draws.nd rfl (by first | exact .inl rfl | exact .inr rfl) (re_2 opd_mod (re_2 opd_mul (gV 7) (gV 7)) re_int))
    (rss_one (rs_set 7 sc_law_draws.nd rfl (by first | exact .inl rfl | exact .inr rfl) (re_2 opd_mod (re_2 opd_mul (re_2 opd_mod (re_2 opd_add (re_2 opd_mul (gV 7) re_int) (re_2 opd_mul re_int (gV 5))) re_int) (gV 7)) re_int))))))
    (rss_one (rs_append 4 rfl (by first | exact Or.inl rfl | exact Or.inr (Or.inl rfl) | exact Or.inr (Or.inr rfl)) (gV 7)))))))
    (rss_one (rs_retO (ro_frz 4 (ro_revL (gV 4)))))))))))
theorem ok_law_next (T : Tab K mg) : FnOk P w K mg base (L2.CX P w) 1 T.a_law_next T.d_law_next ["_law_drawn"] (spD K Z0 1 s_law_next) :=
  def_ok T.F_law_next sc_law_next rfl rfl fun cdv A outer s H E hr =>
    (rss_cons (rs_if (rt_thaw (rt_cmp (opd_eq hr.units) (gV 0) (re_lst ra_nil) (by rfl)))
    (rss_one (rs_ret re_int)) rss_nil)
    (rss_one (rs_ret (re_pop 0 rfl (by first | exact Or.inl rfl | exact Or.inr (Or.inl rfl) | exact Or.inr (Or.inr rfl))))))
theorem ok_law_renamed (T : Tab K mg) : FnOk P w K mg base (L2.CX P w) 1 T.a_law_renamed T.d_law_renamed ["_law_word", "_law_turn"] (spD K Z0 2 s_law_renamed) :=
  def_ok T.F_law_renamed sc_law_renamed rfl rfl fun cdv A outer s H E hr =>
    (rss_one (rs_ret (re_m1 PySem.F.slot_str_join PySem.F.type_str_join md_join (gS []) (re_comp (own := [("_law_sign", 2)]) rfl sc_law_renamed.nd (ri_e (gV 0)) (by rfl) (fun _ _ _ _ _ => (rg_name 2 sc_law_renamed.nd rfl (by first | exact .inl rfl | exact .inr rfl))) (fun _ _ _ _ _ => rts_nil) (fun _ _ _ _ _ => (re_ix (hu_of hr) (gS [97, 98, 99, 100]) (re_2 opd_mod (re_2 opd_add (re_m1 PySem.F.slot_str_index PySem.F.type_str_index md_index (gS [97, 98, 99, 100]) (gV 2)) (gV 1)) re_int))) (by decide)))))
theorem ok_law_kept (T : Tab K mg) : FnOk P w K mg base (L2.CX P w) 2 T.a_law_kept T.d_law_kept ["_law_drawn"] (spD K Z0 1 s_law_kept) :=
  def_ok T.F_law_kept sc_law_kept rfl rfl fun cdv A outer s H E hr =>
    (rss_cons (rs_if (rt_cmp (opd_eq hr.units) (re_2 opd_mod (re_val (ro_callD 0 (ok_law_next T) (fun as h => run_len as h) (hr.mono (by omega)) rfl T.g_law_next T.F_law_next.kp T.b_law_next (takes_of rfl rfl rfl rfl) rfl (by first | exact Or.inl rfl | exact Or.inr (Or.inl rfl) | exact Or.inr (Or.inr rfl)) ra_nil)) re_int) re_int (by rfl))
    (rss_cons (rs_set 1 sc_law_kept.nd rfl (by first | exact .inl rfl | exact .inr rfl) (re_ix (hu_of hr) (re_lst (ra_cons re_int (ra_cons re_int ra_nil))) (re_2 opd_mod (re_val (ro_callD 0 (ok_law_next T) (fun as h => run_len as h) (hr.mono (by omega)) rfl T.g_law_next T.F_law_next.kp T.b_law_next (takes_of rfl rfl rfl rfl) rfl (by first | exact Or.inl rfl | exact Or.inr (Or.inl rfl) | exact Or.inr (Or.inr rfl)) ra_nil)) re_int)))
    (rss_cons (rs_set 2 sc_law_kept.nd rfl (by first | exact .inl rfl | exact .inr rfl) (re_2 opd_mod (re_val (ro_callD 0 (ok_law_next T) (fun as h => run_len as h) (hr.mono (by omega)) rfl T.g_law_next T.F_law_next.kp T.b_law_next (takes_of rfl rfl rfl rfl) rfl (by first | exact Or.inl rfl | exact Or.inr (Or.inl rfl) | exact Or.inr (Or.inr rfl)) ra_nil)) re_int))
    (rss_one (rs_ret (re_t1 cd_tuple rfl T.m_tuple rfl (re_comp (own := [("_law_k", 7)]) rfl sc_law_kept.nd (ri_r1 rfl T.m_range re_int) (by rfl) (fun _ _ _ _ _ => (rg_name 7 sc_law_kept.nd rfl (by first | exact .inl rfl | exact .inr rfl))) (fun _ _ _ _ _ => rts_nil) (fun _ _ _ _ _ => (re_ix (hu_of hr) (gS [97, 98, 99, 100]) (re_2 opd_mod (re_2 opd_add (re_2 opd_mul (gV 7) (gV 1)) (gV 2)) re_int))) (by decide))))))) rss_nil)
    (rss_cons (rs_set 3 sc_law_kept.nd rfl (by first | exact .inl rfl | exact .inr rfl) (re_lst (ra_cons (gS [97, 98]) (ra_cons (gS [97, 99]) (ra_cons (gS [98, 97]) (ra_cons (gS [99, 97]) ra_nil))))))
    (rss_cons (rs_set 4 sc_law_kept.nd rfl (by first | exact .inl rfl | exact .inr rfl) (re_2 opd_mod (re_val (ro_callD 0 (ok_law_next T) (fun as h => run_len as h) (hr.mono (by omega)) rfl T.g_law_next T.F_law_next.kp T.b_law_next (takes_of rfl rfl rfl rfl) rfl (by first | exact Or.inl rfl | exact Or.inr (Or.inl rfl) | exact Or.inr (Or.inr rfl)) ra_nil)) re_int))
    (rss_cons (rs_set 3 sc_law_kept.nd rfl (by first | exact .inl rfl | exact .inr rfl) (re_2 opd_add (re_cut (gV 3) (rp_some (gV 4)) rp_none) (re_cut (gV 3) rp_none (rp_some (gV 4)))))
    (rss_cons (rs_set 5 sc_law_kept.nd rfl (by first | exact .inl rfl | exact .inr rfl) (re_2 opd_mod (re_val (ro_callD 0 (ok_law_next T) (fun as h => run_len as h) (hr.mono (by omega)) rfl T.g_law_next T.F_law_next.kp T.b_law_next (takes_of rfl rfl rfl rfl) rfl (by first | exact Or.inl rfl | exact Or.inr (Or.inl rfl) | exact Or.inr (Or.inr rfl)) ra_nil)) re_int))
    (rss_cons (rs_set 4 sc_law_kept.nd rfl (by first | exact .inl rfl | exact .inr rfl) (re_2 opd_mod (re_val (ro_callD 0 (ok_law_next T) (fun as h => run_len as h) (hr.mono (by omega)) rfl T.g_law_next T.F_law_next.kp T.b_law_next (takes_of rfl rfl rfl rfl) rfl (by first | exact Or.inl rfl | exact Or.inr (Or.inl rfl) | exact Or.inr (Or.inr rfl)) ra_nil)) re_int))
    (rss_one (rs_ret (re_t1 cd_tuple rfl T.m_tuple rfl (re_comp (own := [("_law_word", 6)]) rfl sc_law_kept.nd (ri_e (gV 3)) (by rfl) (fun _ _ _ _ _ => (rg_name 6 sc_law_kept.nd rfl (by first | exact .inl rfl | exact .inr rfl))) (fun _ _ _ _ _ => rts_nil) (fun _ _ _ _ _ => (re_val (ro_call (ok_law_renamed T) (fun as h => run_len as h) (hr.mono (by omega)) rfl T.g_law_renamed T.F_law_renamed.kp T.b_law_renamed takes0 (ra_cons (re_ix (hu_of hr) (re_lst (ra_cons (re_2 opd_add (gV 6) (gS [100])) (ra_cons (re_2 opd_add (gS [100]) (gV 6)) ra_nil))) (gV 5)) (ra_cons (gV 4) ra_nil))))) (by decide)))))))))))
theorem ok_number_of (T : Tab K mg) : FnOk P w K mg base (L2.CX P w) 1 T.a_number_of T.d_number_of ["letter"] (spD K Z0 1 s_number_of) :=
  def_ok T.F_number_of sc_number_of rfl rfl fun cdv A outer s H E hr =>
    (rss_one (rs_ret (re_m1 PySem.F.slot_str_index PySem.F.type_str_index md_index (gG rfl T.c_LETTERS) (gV 0))))
theorem ok_image_within (T : Tab K mg) : FnOk P w K mg base (L2.CX P w) 2 T.a_image_within T.d_image_within ["rule", "word", "most"] (spD K Z0 3 s_image_within) :=
  def_ok T.F_image_within sc_image_within rfl rfl fun cdv A outer s H E hr =>
    (rss_cons (rs_setC 3 rfl sc_image_within.nd rfl rfl rfl (own := [("sign", 4)]) (ri_e (gV 1)) (by rfl) (fun _ _ _ _ _ => (rg_name 4 sc_image_within.nd rfl (by first | exact .inl rfl | exact .inr rfl))) (fun _ _ _ _ _ => rts_nil) (fun _ _ _ _ _ => (re_ix (hu_of hr) (gV 0) (re_val (ro_call (ok_number_of T) (fun as h => run_len as h) (hr.mono (by omega)) rfl T.g_number_of T.F_number_of.kp T.b_number_of takes0 (ra_cons (gV 4) ra_nil))))) (by decide))
    (rss_cons (rs_if (rt_cmp opd_gt (re_b1 (cd_sum rfl) rfl T.m_sum rfl (re_comp (own := [("part", 5)]) rfl sc_image_within.nd (ri_e (gV 3)) (by rfl) (fun _ _ _ _ _ => (rg_name 5 sc_image_within.nd rfl (by first | exact .inl rfl | exact .inr rfl))) (fun _ _ _ _ _ => rts_nil) (fun _ _ _ _ _ => (re_b1 cd_len rfl T.m_len rfl (gV 5))) (by decide))) (gV 2) (by rfl))
    (rss_one rs_never) rss_nil)
    (rss_one (rs_ret (re_m1 PySem.F.slot_str_join PySem.F.type_str_join md_join (gS []) (gV 3))))))
theorem ok_behind (T : Tab K mg) : FnOk P w K mg base (L2.CX P w) 3 T.a_behind T.d_behind ["first", "later"] (spD K Z0 2 s_behind) :=
  def_ok T.F_behind sc_behind rfl rfl fun cdv A outer s H E hr =>
    (rss_one (rs_ret (re_t1 cd_tuple rfl T.m_tuple rfl (re_comp (own := [("word", 2)]) rfl sc_behind.nd (ri_e (gV 0)) (by rfl) (fun _ _ _ _ _ => (rg_name 2 sc_behind.nd rfl (by first | exact .inl rfl | exact .inr rfl))) (fun _ _ _ _ _ => rts_nil) (fun _ _ _ _ _ => (re_val (ro_call (ok_image_within T) (fun as h => run_len as h) (hr.mono (by omega)) rfl T.g_image_within T.F_image_within.kp T.b_image_within takes0 (ra_cons (gV 1) (ra_cons (gV 2) (ra_cons (gG rfl T.c_MOST_WORD_rules) ra_nil)))))) (by decide)))))
theorem ok_law_ends_free (T : Tab K mg) : FnOk P w K mg base (L2.CX P w) 1 T.a_law_ends_free T.d_law_ends_free ["_law_word"] (spD K Z0 1 s_law_ends_free) :=
  def_ok T.F_law_ends_free sc_law_ends_free rfl rfl fun cdv A outer s H E hr =>
    (rss_cons (rs_set 1 sc_law_ends_free.nd rfl (by first | exact .inl rfl | exact .inr rfl) (re_b1 cd_len rfl T.m_len rfl (gV 0)))
    (rss_cons (rs_for (A := b_law_ends_free_1) [2, 3] (passes_of rfl) rfl (ri_r2 rfl T.m_range re_int (re_2 opd_add (re_2 opd_div (gV 1) re_int) re_int)) (rg_name 2 sc_law_ends_free.nd rfl (by first | exact .inl rfl | exact .inr rfl))
    (rss_cons (rs_set 3 sc_law_ends_free.nd rfl (by first | exact .inl rfl | exact .inr rfl) (re_cut (gV 0) (rp_some (re_2 opd_sub (gV 1) (gV 2))) rp_none))
    (rss_one (rs_if (rt_cmp (opd_eq hr.units) (gV 3) (re_cut (gV 0) (rp_some (re_2 opd_sub (gV 1) (re_2 opd_mul re_int (gV 2)))) (rp_some (re_2 opd_sub (gV 1) (gV 2)))) (by rfl))
    (rss_one (rs_ret re_bl)) rss_nil))))
    (rss_one (rs_ret re_bl))))
theorem ok_law_free (T : Tab K mg) : FnOk P w K mg base (L2.CX P w) 2 T.a_law_free T.d_law_free ["_law_drawn", "_law_many", "_law_size"] (spD K Z0 3 s_law_free) :=
  def_ok T.F_law_free sc_law_free rfl rfl fun cdv A outer s H E hr =>
    (rss_cons (rs_set 3 sc_law_free.nd rfl (by first | exact .inl rfl | exact .inr rfl) (gS []))
    (rss_cons (rs_for (A := b_law_free_2) [4, 5, 6] (passes_of rfl) rfl (ri_r1 rfl T.m_range (gV 2)) (rg_name 4 sc_law_free.nd rfl (by first | exact .inl rfl | exact .inr rfl))
    (rss_cons (rs_set 5 sc_law_free.nd rfl (by first | exact .inl rfl | exact .inr rfl) (re_val (ro_callD 0 (ok_law_next T) (fun as h => run_len as h) (hr.mono (by omega)) rfl T.g_law_next T.F_law_next.kp T.b_law_next (takes_of rfl rfl rfl rfl) rfl (by first | exact Or.inl rfl | exact Or.inr (Or.inl rfl) | exact Or.inr (Or.inr rfl)) ra_nil)))
    (rss_cons (rs_setC 6 rfl sc_law_free.nd rfl rfl rfl (own := [("_law_k", 7)]) (ri_r1 rfl T.m_range (gV 1)) (by rfl) (fun _ _ _ _ _ => (rg_name 7 sc_law_free.nd rfl (by first | exact .inl rfl | exact .inr rfl))) (fun _ _ _ _ _ => rts_nil) (fun _ _ _ _ _ => (re_ix (hu_of hr) (gS [97, 98, 99, 100]) (re_2 opd_mod (re_2 opd_add (gV 5) (gV 7)) (gV 1)))) (by decide))
    (rss_cons (rs_setC 6 rfl sc_law_free.nd rfl rfl rfl (own := [("_law_letter", 8)]) (ri_e (gV 6)) (by rfl) (fun _ _ _ _ _ => (rg_name 8 sc_law_free.nd rfl (by first | exact .inl rfl | exact .inr rfl))) (fun _ _ _ _ _ => (rts_one (rt_val (re_val (ro_call (ok_law_ends_free T) (fun as h => run_len as h) (hr.mono (by omega)) rfl T.g_law_ends_free T.F_law_ends_free.kp T.b_law_ends_free takes0 (ra_cons (re_2 opd_add (gV 3) (gV 8)) ra_nil)))))) (fun _ _ _ _ _ => (gV 8)) (by decide))
    (rss_one (rs_if (rt_cmp (opd_ne hr.units) (gV 6) (re_lst ra_nil) (by rfl))
    (rss_one (rs_set 3 sc_law_free.nd rfl (by first | exact .inl rfl | exact .inr rfl) (re_2 opd_add (gV 3) (re_ix (hu_of hr) (gV 6) re_int)))) rss_nil))))))
    (rss_one (rs_ret (gV 3)))))
theorem ok_image (T : Tab K mg) : FnOk P w K mg base (L2.CX P w) 3 T.a_image T.d_image ["rule", "word"] (spD K Z0 2 s_image) :=
  def_ok T.F_image sc_image rfl rfl fun cdv A outer s H E hr =>
    (rss_one (rs_ret (re_val (ro_call (ok_image_within T) (fun as h => run_len as h) (hr.mono (by omega)) rfl T.g_image_within T.F_image_within.kp T.b_image_within (takes_of rfl rfl rfl rfl) (ra_cons (gV 0) (ra_cons (gV 1) (ra_cons (gG rfl T.c_MOST_IMAGE) ra_nil)))))))
theorem ok_law_longer (T : Tab K mg) : FnOk P w K mg base (L2.CX P w) 2 T.a_law_longer T.d_law_longer ["_law_words"] (spD K Z0 1 s_law_longer) :=
  def_ok T.F_law_longer sc_law_longer rfl rfl fun cdv A outer s H E hr =>
    (rss_cons (rs_set 1 sc_law_longer.nd rfl (by first | exact .inl rfl | exact .inr rfl) (re_lst ra_nil))
    (rss_cons (rs_for (A := b_law_longer_1) [2] (passes_of rfl) rfl (ri_e (gV 0)) (rg_name 2 sc_law_longer.nd rfl (by first | exact .inl rfl | exact .inr rfl))
    (rss_one (rs_set 1 sc_law_longer.nd rfl (by first | exact .inl rfl | exact .inr rfl) (re_2 opd_add (gV 1) (re_comp (own := [("_law_letter", 3)]) rfl sc_law_longer.nd (ri_e (gS [97, 98, 99, 100])) (by rfl) (fun _ _ _ _ _ => (rg_name 3 sc_law_longer.nd rfl (by first | exact .inl rfl | exact .inr rfl))) (fun _ _ _ _ _ => (rts_one (rt_val (re_val (ro_call (ok_law_ends_free T) (fun as h => run_len as h) (hr.mono (by omega)) rfl T.g_law_ends_free T.F_law_ends_free.kp T.b_law_ends_free takes0 (ra_cons (re_2 opd_add (gV 2) (gV 3)) ra_nil)))))) (fun _ _ _ _ _ => (re_2 opd_add (gV 2) (gV 3))) (by decide))))))
    (rss_one (rs_ret (gV 1)))))
theorem ok_law_looked (T : Tab K mg) : FnOk P w K mg base (L2.CX P w) 3 T.a_law_looked T.d_law_looked [] (spD K Z0 0 s_law_looked) :=
  def_ok T.F_law_looked sc_law_looked rfl rfl fun cdv A outer s H E hr =>
    (rss_cons (rs_set 0 sc_law_looked.nd rfl (by first | exact .inl rfl | exact .inr rfl) (re_lst ra_nil))
    (rss_cons (rs_set 1 sc_law_looked.nd rfl (by first | exact .inl rfl | exact .inr rfl) (re_lst (ra_cons (gS []) ra_nil)))
    (rss_cons (rs_for (A := b_law_looked_1) [2] (passes_of rfl) rfl (ri_r1 rfl T.m_range re_int) (rg_name 2 sc_law_looked.nd rfl (by first | exact .inl rfl | exact .inr rfl))
    (rss_cons (rs_set 1 sc_law_looked.nd rfl (by first | exact .inl rfl | exact .inr rfl) (re_val (ro_call (ok_law_longer T) (fun as h => run_len as h) (hr.mono (by omega)) rfl T.g_law_longer T.F_law_longer.kp T.b_law_longer (takes_of rfl rfl rfl rfl) (ra_cons (gV 1) ra_nil))))
    (rss_one (rs_set 0 sc_law_looked.nd rfl (by first | exact .inl rfl | exact .inr rfl) (re_2 opd_add (gV 0) (gV 1))))))
    (rss_one (rs_ret (gV 0))))))
theorem ok_law_whole (T : Tab K mg) : FnOk P w K mg base (L2.CX P w) 1 T.a_law_whole T.d_law_whole ["_law_found"] (spD K Z0 1 s_law_whole) :=
  def_ok T.F_law_whole sc_law_whole rfl rfl fun cdv A outer s H E hr =>
    (rss_one (rs_ret (re_and (re_isI 1 rfl T.m_isinstance rfl T.m_int (gV 0)) (re_one (re_not (re_isI 2 rfl T.m_isinstance rfl T.m_bool (gV 0)))))))
theorem len_law_same : ∀ n as, s_law_same n as ≠ .st → as.length = 2
  | 0, _, h => absurd rfl h
  | n + 1, as, h => run_len as h
theorem ok_law_all_same (T : Tab K mg) (n : Nat) (hA : FnOk P w K mg base (L2.CX P w) (1 + 2 * n) T.a_law_same T.d_law_same ["_law_found", "_law_due"] (spD K Z0 2 (s_law_same n))) : FnOk P w K mg base (L2.CX P w) (1 + 2 * n + 1) T.a_law_all_same T.d_law_all_same ["_law_found", "_law_due"] (spD K Z0 2 (s_law_all_same (s_law_same n))) :=
  def_ok T.F_law_all_same sc_law_all_same rfl rfl fun cdv A outer s H E hr =>
    (rss_cons (rs_for (A := (b_law_all_same_1 (s_law_same n))) [2, 3] (passes_of rfl) rfl (ri_zip rfl T.m_zip (gV 0) (gV 1)) (rg_tup rfl (rgs_cons 2 sc_law_all_same.nd rfl (by first | exact .inl rfl | exact .inr rfl) (rgs_cons 3 sc_law_all_same.nd rfl (by first | exact .inl rfl | exact .inr rfl) rgs_nil)))
    (rss_one (rs_if (rt_not (rt_val (re_val (ro_call hA (len_law_same n) (hr.mono (by omega)) rfl T.g_law_same T.F_law_same.kp T.b_law_same (takes_of rfl rfl rfl rfl) (ra_cons (gV 2) (ra_cons (gV 3) ra_nil))))))
    (rss_one (rs_ret re_bl)) rss_nil)))
    (rss_one (rs_ret re_bl)))
theorem ok_law_same (T : Tab K mg) : ∀ n, FnOk P w K mg base (L2.CX P w) (1 + 2 * n) T.a_law_same T.d_law_same ["_law_found", "_law_due"] (spD K Z0 2 (s_law_same n))
  | 0 => fn_st rfl
  | n + 1 => def_ok (k := 1 + 2 * n + 1) T.F_law_same sc_law_same rfl rfl fun cdv A outer s H E hr =>
    (rss_cons (rs_if (rt_cmp opd_is (gV 1) re_non (by rfl))
    (rss_one (rs_ret (re_cmp opd_is (gV 0) re_non (by rfl)))) rss_nil)
    (rss_cons (rs_if (rt_val (re_isI 4 rfl T.m_isinstance rfl T.m_tuple (gV 1)))
    (rss_one (rs_ret (re_and (re_isI 4 rfl T.m_isinstance rfl T.m_tuple (gV 0)) (re_and (re_cmp (opd_eq hr.units) (re_b1 cd_len rfl T.m_len rfl (gV 0)) (re_b1 cd_len rfl T.m_len rfl (gV 1)) (by rfl)) (re_one (re_val (ro_call (ok_law_all_same T n (ok_law_same T n)) (fun as h => run_len as h) (hr.mono (by omega)) rfl T.g_law_all_same T.F_law_all_same.kp T.b_law_all_same (takes_of rfl rfl rfl rfl) (ra_cons (re_t1 cd_list rfl T.m_list rfl (gV 0)) (ra_cons (re_t1 cd_list rfl T.m_list rfl (gV 1)) ra_nil))))))))) rss_nil)
    (rss_cons (rs_if (rt_val (re_isI 3 rfl T.m_isinstance rfl T.m_list (gV 1)))
    (rss_one (rs_ret (re_and (re_isI 3 rfl T.m_isinstance rfl T.m_list (gV 0)) (re_and (re_cmp (opd_eq hr.units) (re_b1 cd_len rfl T.m_len rfl (gV 0)) (re_b1 cd_len rfl T.m_len rfl (gV 1)) (by rfl)) (re_one (re_val (ro_call (ok_law_all_same T n (ok_law_same T n)) (fun as h => run_len as h) (hr.mono (by omega)) rfl T.g_law_all_same T.F_law_all_same.kp T.b_law_all_same (takes_of rfl rfl rfl rfl) (ra_cons (gV 0) (ra_cons (gV 1) ra_nil))))))))) rss_nil)
    (rss_cons (rs_if (rt_val (re_isI 0 rfl T.m_isinstance rfl T.m_str (gV 1)))
    (rss_one (rs_ret (re_and (re_isI 0 rfl T.m_isinstance rfl T.m_str (gV 0)) (re_one (re_cmp (opd_eq hr.units) (gV 0) (gV 1) (by rfl)))))) rss_nil)
    (rss_one (rs_ret (re_and (re_val (ro_call (ok_law_whole T) (fun as h => run_len as h) (hr.mono (by omega)) rfl T.g_law_whole T.F_law_whole.kp T.b_law_whole (takes_of rfl rfl rfl rfl) (ra_cons (gV 0) ra_nil))) (re_one (re_cmp (opd_eq hr.units) (gV 0) (gV 1) (by rfl))))))))))
theorem ok_law_put (T : Tab K mg) : FnOk P w K mg base (L2.CX P w) 1 T.a_law_put T.d_law_put ["_law_rule", "_law_word"] (spD K Z0 2 s_law_put) :=
  def_ok T.F_law_put sc_law_put rfl rfl fun cdv A outer s H E hr =>
    (rss_one (rs_ret (re_m1 PySem.F.slot_str_join PySem.F.type_str_join md_join (gS []) (re_comp (own := [("_law_sign", 2)]) rfl sc_law_put.nd (ri_e (gV 1)) (by rfl) (fun _ _ _ _ _ => (rg_name 2 sc_law_put.nd rfl (by first | exact .inl rfl | exact .inr rfl))) (fun _ _ _ _ _ => rts_nil) (fun _ _ _ _ _ => (re_ix (hu_of hr) (gV 0) (re_m1 PySem.F.slot_str_index PySem.F.type_str_index md_index (gS [97, 98, 99, 100]) (gV 2)))) (by decide)))))
theorem ok_law_double (T : Tab K mg) : FnOk P w K mg base (L2.CX P w) 1 T.a_law_double T.d_law_double ["_law_word"] (spD K Z0 1 s_law_double) :=
  def_ok T.F_law_double sc_law_double rfl rfl fun cdv A outer s H E hr =>
    (rss_cons (rs_for (A := b_law_double_2) [1, 2, 3] (passes_of rfl) rfl (ri_r2 rfl T.m_range re_int (re_2 opd_add (re_b1 cd_len rfl T.m_len rfl (gV 0)) re_int)) (rg_name 1 sc_law_double.nd rfl (by first | exact .inl rfl | exact .inr rfl))
    (rss_one (rs_for (A := b_law_double_1) [2, 3] (passes_of rfl) rfl (ri_r2 rfl T.m_range re_int (re_2 opd_add (re_2 opd_div (gV 1) re_int) re_int)) (rg_name 2 sc_law_double.nd rfl (by first | exact .inl rfl | exact .inr rfl))
    (rss_cons (rs_set 3 sc_law_double.nd rfl (by first | exact .inl rfl | exact .inr rfl) (re_2 opd_sub (gV 1) (re_2 opd_mul re_int (gV 2))))
    (rss_one (rs_if (rt_cmp (opd_eq hr.units) (re_cut (gV 0) (rp_some (gV 3)) (rp_some (re_2 opd_add (gV 3) (gV 2)))) (re_cut (gV 0) (rp_some (re_2 opd_add (gV 3) (gV 2))) (rp_some (gV 1))) (by rfl))
    (rss_one (rs_ret (re_tup (ra_cons (gV 3) (ra_cons (re_2 opd_mul re_int (gV 2)) (ra_cons (gV 2) ra_nil)))))) rss_nil))))))
    (rss_one (rs_ret re_non)))
theorem ok_looked_length (T : Tab K mg) : FnOk P w K mg base (L2.CX P w) 1 T.a_looked_length T.d_looked_length ["rule"] (spD K Z0 1 s_looked_length) :=
  def_ok T.F_looked_length sc_looked_length rfl rfl fun cdv A outer s H E hr =>
    (rss_cons (rs_set 1 sc_looked_length.nd rfl (by first | exact .inl rfl | exact .inr rfl) (re_b1 (cd_max rfl) rfl T.m_max rfl (re_comp (own := [("word", 3)]) rfl sc_looked_length.nd (ri_e (gV 0)) (by rfl) (fun _ _ _ _ _ => (rg_name 3 sc_looked_length.nd rfl (by first | exact .inl rfl | exact .inr rfl))) (fun _ _ _ _ _ => rts_nil) (fun _ _ _ _ _ => (re_b1 cd_len rfl T.m_len rfl (gV 3))) (by decide))))
    (rss_cons (rs_set 2 sc_looked_length.nd rfl (by first | exact .inl rfl | exact .inr rfl) (re_b1 (cd_min rfl) rfl T.m_min rfl (re_comp (own := [("word", 3)]) rfl sc_looked_length.nd (ri_e (gV 0)) (by rfl) (fun _ _ _ _ _ => (rg_name 3 sc_looked_length.nd rfl (by first | exact .inl rfl | exact .inr rfl))) (fun _ _ _ _ _ => rts_nil) (fun _ _ _ _ _ => (re_b1 cd_len rfl T.m_len rfl (gV 3))) (by decide))))
    (rss_one (rs_ret (re_2 opd_add re_int (re_2 opd_div (re_b2 (cd_max2 rfl) rfl T.m_max rfl re_int (re_2 opd_sub (gV 1) re_int)) (gV 2)))))))
theorem ok_letters (T : Tab K mg) : FnOk P w K mg base (L2.CX P w) 1 T.a_letters T.d_letters ["many"] (spD K Z0 1 s_letters) :=
  def_ok T.F_letters sc_letters rfl rfl fun cdv A outer s H E hr =>
    (rss_one (rs_ret (re_cut (gG rfl T.c_LETTERS) rp_none (rp_some (gV 0)))))
theorem ok_ends_free (T : Tab K mg) : FnOk P w K mg base (L2.CX P w) 1 T.a_ends_free T.d_ends_free ["word"] (spD K Z0 1 s_ends_free) :=
  def_ok T.F_ends_free sc_ends_free rfl rfl fun cdv A outer s H E hr =>
    (rss_cons (rs_set 1 sc_ends_free.nd rfl (by first | exact .inl rfl | exact .inr rfl) (re_b1 cd_len rfl T.m_len rfl (gV 0)))
    (rss_cons (rs_for (A := b_ends_free_1) [2] (passes_of rfl) rfl (ri_r2 rfl T.m_range re_int (re_2 opd_add (re_2 opd_div (gV 1) re_int) re_int)) (rg_name 2 sc_ends_free.nd rfl (by first | exact .inl rfl | exact .inr rfl))
    (rss_one (rs_if (rt_cmp (opd_eq hr.units) (re_cut (gV 0) (rp_some (re_2 opd_sub (gV 1) (gV 2))) rp_none) (re_cut (gV 0) (rp_some (re_2 opd_sub (gV 1) (re_2 opd_mul re_int (gV 2)))) (rp_some (re_2 opd_sub (gV 1) (gV 2)))) (by rfl))
    (rss_one (rs_ret re_bl)) rss_nil)))
    (rss_one (rs_ret re_bl))))
theorem ok_made_longer (T : Tab K mg) : FnOk P w K mg base (L2.CX P w) 2 T.a_made_longer T.d_made_longer ["words", "many"] (spD K Z0 2 s_made_longer) :=
  def_ok T.F_made_longer sc_made_longer rfl rfl fun cdv A outer s H E hr =>
    (rss_cons (rs_own 2 sc_made_longer.nd rfl (by first | exact .inl rfl | exact .inr rfl) (ro_lst ra_nil))
    (rss_cons (rs_for (A := b_made_longer_2) [3, 4] (passes_of rfl) rfl (ri_e (gV 0)) (rg_name 3 sc_made_longer.nd rfl (by first | exact .inl rfl | exact .inr rfl))
    (rss_one (rs_for (A := b_made_longer_1) [4] (passes_of rfl) rfl (ri_e (re_val (ro_call (ok_letters T) (fun as h => run_len as h) (hr.mono (by omega)) rfl T.g_letters T.F_letters.kp T.b_letters (takes_of rfl rfl rfl rfl) (ra_cons (gV 1) ra_nil)))) (rg_name 4 sc_made_longer.nd rfl (by first | exact .inl rfl | exact .inr rfl))
    (rss_one (rs_if (rt_val (re_val (ro_call (ok_ends_free T) (fun as h => run_len as h) (hr.mono (by omega)) rfl T.g_ends_free T.F_ends_free.kp T.b_ends_free (takes_of rfl rfl rfl rfl) (ra_cons (re_2 opd_add (gV 3) (gV 4)) ra_nil))))
    (rss_one (rs_append 2 rfl (by first | exact Or.inl rfl | exact Or.inr (Or.inl rfl) | exact Or.inr (Or.inr rfl)) (re_2 opd_add (gV 3) (gV 4)))) rss_nil)))))
    (rss_one (rs_retN 2 rfl (by first | exact Or.inl rfl | exact Or.inr (Or.inl rfl) | exact Or.inr (Or.inr rfl))))))
theorem ok_least_breaking (T : Tab K mg) : FnOk P w K mg base (L2.CX P w) 1 T.a_least_breaking T.d_least_breaking ["limit", "period"] (spD K Z0 2 s_least_breaking) :=
  def_ok T.F_least_breaking sc_least_breaking rfl rfl fun cdv A outer s H E hr =>
    (rss_cons (rs_tg (gV 0) (rg_tup rfl (rgs_cons 2 sc_least_breaking.nd rfl (by first | exact .inl rfl | exact .inr rfl) (rgs_cons 3 sc_least_breaking.nd rfl (by first | exact .inl rfl | exact .inr rfl) (rgs_cons 4 sc_least_breaking.nd rfl (by first | exact .inl rfl | exact .inr rfl) rgs_nil)))))
    (rss_cons (rs_set 5 sc_least_breaking.nd rfl (by first | exact .inl rfl | exact .inr rfl) (re_2 opd_div (re_2 opd_sub (re_2 opd_add (re_2 opd_mul (gV 2) (gV 1)) (gV 3)) re_int) (gV 3)))
    (rss_cons (rs_if (rt_w (rw_and (rt_val (gV 4)) (rw_and1 (rt_cmp (opd_eq hr.units) (re_2 opd_mul (gV 5) (gV 3)) (re_2 opd_mul (gV 2) (gV 1)) (by rfl)))))
    (rss_one (rs_ret (re_2 opd_add (gV 5) re_int))) rss_nil)
    (rss_one (rs_ret (gV 5))))))
theorem ok_repeat_in (T : Tab K mg) : FnOk P w K mg base (L2.CX P w) 2 T.a_repeat_in T.d_repeat_in ["word", "limit"] (spD K Z0 2 s_repeat_in) :=
  def_ok T.F_repeat_in sc_repeat_in rfl rfl fun cdv A outer s H E hr =>
    (rss_cons (rs_setC 2 rfl sc_repeat_in.nd rfl rfl rfl (own := [("period", 6)]) (ri_r1 rfl T.m_range (re_b1 cd_len rfl T.m_len rfl (gV 0))) (by rfl) (fun _ _ _ _ _ => (rg_name 6 sc_repeat_in.nd rfl (by first | exact .inl rfl | exact .inr rfl))) (fun _ _ _ _ _ => rts_nil) (fun _ _ _ _ _ => (re_2 opd_sub (re_val (ro_call (ok_least_breaking T) (fun as h => run_len as h) (hr.mono (by omega)) rfl T.g_least_breaking T.F_least_breaking.kp T.b_least_breaking takes0 (ra_cons (gV 1) (ra_cons (gV 6) ra_nil)))) (gV 6))) (by decide))
    (rss_cons (rs_ownC 3 rfl sc_repeat_in.nd rfl rfl rfl (own := [("sign", 5)]) (ri_e (gV 0)) (by rfl) (fun _ _ _ _ _ => (rg_name 5 sc_repeat_in.nd rfl (by first | exact .inl rfl | exact .inr rfl))) (fun _ _ _ _ _ => rts_nil) (fun _ _ _ _ _ => re_int) (by decide))
    (rss_cons (rs_for (A := b_repeat_in_3) [4, 5, 6, 7] (passes_of rfl) rfl (ri_enum2 rfl T.m_enumerate (gV 0)) (rg_tup rfl (rgs_cons 4 sc_repeat_in.nd rfl (by first | exact .inl rfl | exact .inr rfl) (rgs_cons 5 sc_repeat_in.nd rfl (by first | exact .inl rfl | exact .inr rfl) rgs_nil)))
    (rss_one (rs_for (A := b_repeat_in_2) [6, 7] (passes_of rfl) rfl (ri_r2 rfl T.m_range re_int (re_2 opd_add (gV 4) re_int)) (rg_name 6 sc_repeat_in.nd rfl (by first | exact .inl rfl | exact .inr rfl))
    (rss_one (rs_if (rt_cmp (opd_eq hr.units) (re_ix (hu_of hr) (gV 0) (re_2 opd_sub (gV 4) (gV 6))) (gV 5) (by rfl))
    (rss_cons (rs_augIx 3 rfl (by first | exact Or.inl rfl | exact Or.inr (Or.inl rfl) | exact Or.inr (Or.inr rfl)) (gV 6) opd_iadd re_int)
    (rss_one (rs_if (rt_thaw (rt_cmp opd_ge (re_ix (hu_of hr) (gV 3) (gV 6)) (re_ix (hu_of hr) (gV 2) (gV 6)) (by rfl)))
    (rss_cons (rs_set 7 sc_repeat_in.nd rfl (by first | exact .inl rfl | exact .inr rfl) (re_2 opd_add (re_ix (hu_of hr) (gV 2) (gV 6)) (gV 6)))
    (rss_one (rs_ret (re_tup (ra_cons (re_2 opd_sub (re_2 opd_add (gV 4) re_int) (gV 7)) (ra_cons (gV 7) (ra_cons (gV 6) ra_nil))))))) rss_nil))) (rss_one (rs_setIx 3 (hu_of hr) rfl (by first | exact Or.inl rfl | exact Or.inr (Or.inl rfl) | exact Or.inr (Or.inr rfl)) (gV 6) re_int)))))))
    (rss_one (rs_ret re_non)))))
theorem ok_keeps (T : Tab K mg) : FnOk P w K mg base (L2.CX P w) 4 T.a_keeps T.d_keeps ["rule"] (spD K Z0 1 s_keeps) :=
  def_ok T.F_keeps sc_keeps rfl rfl fun cdv A outer s H E hr =>
    (rss_cons (rs_if (rt_cmp opd_gt (re_b1 (cd_max rfl) rfl T.m_max rfl (re_comp (own := [("word", 4)]) rfl sc_keeps.nd (ri_e (gV 0)) (by rfl) (fun _ _ _ _ _ => (rg_name 4 sc_keeps.nd rfl (by first | exact .inl rfl | exact .inr rfl))) (fun _ _ _ _ _ => rts_nil) (fun _ _ _ _ _ => (re_b1 cd_len rfl T.m_len rfl (gV 4))) (by decide))) (gG rfl T.c_MOST_WORD_keeping) (by rfl))
    (rss_one rs_never) rss_nil)
    (rss_cons (rs_own 1 sc_keeps.nd rfl (by first | exact .inl rfl | exact .inr rfl) (ro_lst ra_nil))
    (rss_cons (rs_set 2 sc_keeps.nd rfl (by first | exact .inl rfl | exact .inr rfl) (re_lst (ra_cons (gS []) ra_nil)))
    (rss_cons (rs_for (A := b_keeps_2) [3, 4, 5] (passes_of rfl) rfl (ri_r1 rfl T.m_range (re_val (ro_call (ok_looked_length T) (fun as h => run_len as h) (hr.mono (by omega)) rfl T.g_looked_length T.F_looked_length.kp T.b_looked_length (takes_of rfl rfl rfl rfl) (ra_cons (gV 0) ra_nil)))) (rg_name 3 sc_keeps.nd rfl (by first | exact .inl rfl | exact .inr rfl))
    (rss_cons (rs_set 2 sc_keeps.nd rfl (by first | exact .inl rfl | exact .inr rfl) (re_val (ro_call (ok_made_longer T) (fun as h => run_len as h) (hr.mono (by omega)) rfl T.g_made_longer T.F_made_longer.kp T.b_made_longer (takes_of rfl rfl rfl rfl) (ra_cons (gV 2) (ra_cons (re_b1 cd_len rfl T.m_len rfl (gV 0)) ra_nil)))))
    (rss_cons (rs_if (rt_thaw (rt_cmp opd_gt (re_2 opd_add (re_b1 cd_len rfl T.m_len rfl (gV 1)) (re_b1 cd_len rfl T.m_len rfl (gV 2))) (gG rfl T.c_MOST_LOOKED) (by rfl)))
    (rss_one rs_never) rss_nil)
    (rss_cons (rs_for (A := b_keeps_1) [4, 5] (passes_of rfl) rfl (ri_e (gV 2)) (rg_name 4 sc_keeps.nd rfl (by first | exact .inl rfl | exact .inr rfl))
    (rss_cons (rs_set 5 sc_keeps.nd rfl (by first | exact .inl rfl | exact .inr rfl) (re_val (ro_call (ok_repeat_in T) (fun as h => run_len as h) (hr.mono (by omega)) rfl T.g_repeat_in T.F_repeat_in.kp T.b_repeat_in (takes_of rfl rfl rfl rfl) (ra_cons (re_val (ro_call (ok_image T) (fun as h => run_len as h) (hr.mono (by omega)) rfl T.g_image T.F_image.kp T.b_image (takes_of rfl rfl rfl rfl) (ra_cons (gV 0) (ra_cons (gV 4) ra_nil)))) (ra_cons (gT rfl T.c_DOUBLES) ra_nil)))))
    (rss_one (rs_if (rt_cmp opd_isNot (gV 5) re_non (by rfl))
    (rss_one (rs_ret (re_tup (ra_cons (gS [98, 114, 101, 97, 107, 115]) (ra_cons (gV 4) (ra_cons (gV 5) ra_nil)))))) rss_nil))))
    (rss_one (rs_extend 1 rfl (by first | exact Or.inl rfl | exact Or.inr (Or.inl rfl) | exact Or.inr (Or.inr rfl)) (gV 2)))))))
    (rss_one (rs_ret (re_frz 1 (re_tup (ra_cons (gS [107, 101, 101, 112, 115]) (ra_cons (gV 1) ra_nil))))))))))
theorem ok_law (T : Tab K mg) : FnOk P w K mg base (L2.CX P w) 12 T.a_law T.d_law ["_law_script"] (spD K Z0 1 s_law) :=
  def_ok T.F_law sc_law rfl rfl fun cdv A outer s H E hr =>
    (rss_cons (rs_own 1 sc_law.nd rfl (by first | exact .inl rfl | exact .inr rfl) (ro_call (ok_law_draws T) (fun as h => run_len as h) (hr.mono (by omega)) rfl T.g_law_draws T.F_law_draws.kp T.b_law_draws (takes_of rfl rfl rfl rfl) (ra_cons (gV 0) ra_nil)))
    (rss_cons (rs_set 2 sc_law.nd rfl (by first | exact .inl rfl | exact .inr rfl) (re_val (ro_callD 1 (ok_law_kept T) (fun as h => run_len as h) (hr.mono (by omega)) rfl T.g_law_kept T.F_law_kept.kp T.b_law_kept (takes_of rfl rfl rfl rfl) rfl (by first | exact Or.inl rfl | exact Or.inr (Or.inl rfl) | exact Or.inr (Or.inr rfl)) ra_nil)))
    (rss_cons (rs_set 3 sc_law.nd rfl (by first | exact .inl rfl | exact .inr rfl) (re_val (ro_callD 1 (ok_law_kept T) (fun as h => run_len as h) (hr.mono (by omega)) rfl T.g_law_kept T.F_law_kept.kp T.b_law_kept (takes_of rfl rfl rfl rfl) rfl (by first | exact Or.inl rfl | exact Or.inr (Or.inl rfl) | exact Or.inr (Or.inr rfl)) ra_nil)))
    (rss_cons (rs_set 4 sc_law.nd rfl (by first | exact .inl rfl | exact .inr rfl) (re_val (ro_call (ok_behind T) (fun as h => run_len as h) (hr.mono (by omega)) rfl T.g_behind T.F_behind.kp T.b_behind (takes_of rfl rfl rfl rfl) (ra_cons (gV 2) (ra_cons (gV 3) ra_nil)))))
    (rss_cons (rs_set 5 sc_law.nd rfl (by first | exact .inl rfl | exact .inr rfl) (re_tup (ra_cons (gS [107, 101, 101, 112, 115]) (ra_cons (re_val (ro_call0 (ok_law_looked T) (fun as h => run_len as h) (hr.mono (by omega)) rfl T.g_law_looked T.F_law_looked.kp T.b_law_looked (takes_of rfl rfl rfl rfl))) ra_nil))))
    (rss_cons (rs_if (rt_not (rt_val (re_val (ro_call (ok_law_same T 5) (len_law_same 5) (hr.mono (by omega)) rfl T.g_law_same T.F_law_same.kp T.b_law_same (takes_of rfl rfl rfl rfl) (ra_cons (gV 4) (ra_cons (re_t1 cd_tuple rfl T.m_tuple rfl (re_comp (own := [("_law_word", 7)]) rfl sc_law.nd (ri_e (gV 2)) (by rfl) (fun _ _ _ _ _ => (rg_name 7 sc_law.nd rfl (by first | exact .inl rfl | exact .inr rfl))) (fun _ _ _ _ _ => rts_nil) (fun _ _ _ _ _ => (re_val (ro_call (ok_law_put T) (fun as h => run_len as h) (hr.mono (by omega)) rfl T.g_law_put T.F_law_put.kp T.b_law_put takes0 (ra_cons (gV 3) (ra_cons (gV 7) ra_nil))))) (by decide))) ra_nil))))))
    (rss_one (rs_ret re_bl)) rss_nil)
    (rss_cons (rs_for (A := b_law_1) [6] (passes_of rfl) rfl (ri_e (re_lst (ra_cons (gV 2) (ra_cons (gV 3) (ra_cons (gV 4) ra_nil))))) (rg_name 6 sc_law.nd rfl (by first | exact .inl rfl | exact .inr rfl))
    (rss_one (rs_if (rt_not (rt_val (re_val (ro_call (ok_law_same T 5) (len_law_same 5) (hr.mono (by omega)) rfl T.g_law_same T.F_law_same.kp T.b_law_same (takes_of rfl rfl rfl rfl) (ra_cons (re_val (ro_call (ok_keeps T) (fun as h => run_len as h) (hr.mono (by omega)) rfl T.g_keeps T.F_keeps.kp T.b_keeps (takes_of rfl rfl rfl rfl) (ra_cons (gV 6) ra_nil))) (ra_cons (gV 5) ra_nil))))))
    (rss_one (rs_ret re_bl)) rss_nil)))
    (rss_cons (rs_set 7 sc_law.nd rfl (by first | exact .inl rfl | exact .inr rfl) (re_val (ro_callD 1 (ok_law_free T) (fun as h => run_len as h) (hr.mono (by omega)) rfl T.g_law_free T.F_law_free.kp T.b_law_free (takes_of rfl rfl rfl rfl) rfl (by first | exact Or.inl rfl | exact Or.inr (Or.inl rfl) | exact Or.inr (Or.inr rfl)) (ra_cons re_int (ra_cons re_int ra_nil)))))
    (rss_cons (rs_set 8 sc_law.nd rfl (by first | exact .inl rfl | exact .inr rfl) (re_val (ro_call (ok_image T) (fun as h => run_len as h) (hr.mono (by omega)) rfl T.g_image T.F_image.kp T.b_image (takes_of rfl rfl rfl rfl) (ra_cons (gV 4) (ra_cons (gV 7) ra_nil)))))
    (rss_one (rs_ret (re_and (re_val (ro_call (ok_law_same T 5) (len_law_same 5) (hr.mono (by omega)) rfl T.g_law_same T.F_law_same.kp T.b_law_same (takes_of rfl rfl rfl rfl) (ra_cons (gV 8) (ra_cons (re_val (ro_call (ok_law_put T) (fun as h => run_len as h) (hr.mono (by omega)) rfl T.g_law_put T.F_law_put.kp T.b_law_put (takes_of rfl rfl rfl rfl) (ra_cons (gV 3) (ra_cons (re_val (ro_call (ok_law_put T) (fun as h => run_len as h) (hr.mono (by omega)) rfl T.g_law_put T.F_law_put.kp T.b_law_put (takes_of rfl rfl rfl rfl) (ra_cons (gV 2) (ra_cons (gV 7) ra_nil)))) ra_nil)))) ra_nil)))) (re_one (re_cmp opd_is (re_val (ro_call (ok_law_double T) (fun as h => run_len as h) (hr.mono (by omega)) rfl T.g_law_double T.F_law_double.kp T.b_law_double (takes_of rfl rfl rfl rfl) (ra_cons (gV 8) ra_nil))) re_non (by rfl)))))))))))))))
end
theorem all_mk {l : PySem.W.OpenLaw} {w : World} {K : PySem.W.Frag} {h : Heap} {mg : Str → Option Value} {fa : Addr} (X : K.In h) (G : h.Ns mainGlobals mg) (hfa : mg "law" = some (.ref fa))
    {f_law_draws : Addr} {od_law_draws an_law_draws : Option Addr} {sl_law_draws : Array (Option Value)} {oc_law_draws kV_law_draws dc_law_draws pm_law_draws cd_law_draws ct_law_draws : Value}
    {f_law_next : Addr} {od_law_next an_law_next : Option Addr} {sl_law_next : Array (Option Value)} {oc_law_next kV_law_next dc_law_next pm_law_next cd_law_next ct_law_next : Value}
    {f_law_renamed : Addr} {od_law_renamed an_law_renamed : Option Addr} {sl_law_renamed : Array (Option Value)} {oc_law_renamed kV_law_renamed dc_law_renamed pm_law_renamed cd_law_renamed ct_law_renamed : Value}
    {f_law_kept : Addr} {od_law_kept an_law_kept : Option Addr} {sl_law_kept : Array (Option Value)} {oc_law_kept kV_law_kept dc_law_kept pm_law_kept cd_law_kept ct_law_kept : Value}
    {f_number_of : Addr} {od_number_of an_number_of : Option Addr} {sl_number_of : Array (Option Value)} {oc_number_of kV_number_of dc_number_of pm_number_of cd_number_of ct_number_of : Value}
    {f_image_within : Addr} {od_image_within an_image_within : Option Addr} {sl_image_within : Array (Option Value)} {oc_image_within kV_image_within dc_image_within pm_image_within cd_image_within ct_image_within : Value}
    {f_behind : Addr} {od_behind an_behind : Option Addr} {sl_behind : Array (Option Value)} {oc_behind kV_behind dc_behind pm_behind cd_behind ct_behind : Value}
    {f_law_ends_free : Addr} {od_law_ends_free an_law_ends_free : Option Addr} {sl_law_ends_free : Array (Option Value)} {oc_law_ends_free kV_law_ends_free dc_law_ends_free pm_law_ends_free cd_law_ends_free ct_law_ends_free : Value}
    {f_law_free : Addr} {od_law_free an_law_free : Option Addr} {sl_law_free : Array (Option Value)} {oc_law_free kV_law_free dc_law_free pm_law_free cd_law_free ct_law_free : Value}
    {f_image : Addr} {od_image an_image : Option Addr} {sl_image : Array (Option Value)} {oc_image kV_image dc_image pm_image cd_image ct_image : Value}
    {f_law_longer : Addr} {od_law_longer an_law_longer : Option Addr} {sl_law_longer : Array (Option Value)} {oc_law_longer kV_law_longer dc_law_longer pm_law_longer cd_law_longer ct_law_longer : Value}
    {f_law_looked : Addr} {od_law_looked an_law_looked : Option Addr} {sl_law_looked : Array (Option Value)} {oc_law_looked kV_law_looked dc_law_looked pm_law_looked cd_law_looked ct_law_looked : Value}
    {f_law_whole : Addr} {od_law_whole an_law_whole : Option Addr} {sl_law_whole : Array (Option Value)} {oc_law_whole kV_law_whole dc_law_whole pm_law_whole cd_law_whole ct_law_whole : Value}
    {f_law_all_same : Addr} {od_law_all_same an_law_all_same : Option Addr} {sl_law_all_same : Array (Option Value)} {oc_law_all_same kV_law_all_same dc_law_all_same pm_law_all_same cd_law_all_same ct_law_all_same : Value}
    {f_law_same : Addr} {od_law_same an_law_same : Option Addr} {sl_law_same : Array (Option Value)} {oc_law_same kV_law_same dc_law_same pm_law_same cd_law_same ct_law_same : Value}
    {f_law_put : Addr} {od_law_put an_law_put : Option Addr} {sl_law_put : Array (Option Value)} {oc_law_put kV_law_put dc_law_put pm_law_put cd_law_put ct_law_put : Value}
    {f_law_double : Addr} {od_law_double an_law_double : Option Addr} {sl_law_double : Array (Option Value)} {oc_law_double kV_law_double dc_law_double pm_law_double cd_law_double ct_law_double : Value}
    {f_looked_length : Addr} {od_looked_length an_looked_length : Option Addr} {sl_looked_length : Array (Option Value)} {oc_looked_length kV_looked_length dc_looked_length pm_looked_length cd_looked_length ct_looked_length : Value}
    {f_letters : Addr} {od_letters an_letters : Option Addr} {sl_letters : Array (Option Value)} {oc_letters kV_letters dc_letters pm_letters cd_letters ct_letters : Value}
    {f_ends_free : Addr} {od_ends_free an_ends_free : Option Addr} {sl_ends_free : Array (Option Value)} {oc_ends_free kV_ends_free dc_ends_free pm_ends_free cd_ends_free ct_ends_free : Value}
    {f_made_longer : Addr} {od_made_longer an_made_longer : Option Addr} {sl_made_longer : Array (Option Value)} {oc_made_longer kV_made_longer dc_made_longer pm_made_longer cd_made_longer ct_made_longer : Value}
    {f_least_breaking : Addr} {od_least_breaking an_least_breaking : Option Addr} {sl_least_breaking : Array (Option Value)} {oc_least_breaking kV_least_breaking dc_least_breaking pm_least_breaking cd_least_breaking ct_least_breaking : Value}
    {f_repeat_in : Addr} {od_repeat_in an_repeat_in : Option Addr} {sl_repeat_in : Array (Option Value)} {oc_repeat_in kV_repeat_in dc_repeat_in pm_repeat_in cd_repeat_in ct_repeat_in : Value}
    {f_keeps : Addr} {od_keeps an_keeps : Option Addr} {sl_keeps : Array (Option Value)} {oc_keeps kV_keeps dc_keeps pm_keeps cd_keeps ct_keeps : Value}
    {f_law : Addr} {od_law an_law : Option Addr} {sl_law : Array (Option Value)} {oc_law kV_law dc_law pm_law cd_law ct_law : Value}
    (a_law_draws : PySem.W.nsIn K mainGlobals "_law_draws" = some (some (.ref f_law_draws)))
    (l_law_draws : K.lookup f_law_draws = some ⟨oc_law_draws, od_law_draws, .func (PySem.W.fnOf "_law_draws" "_law_draws" (defArgs t_law_draws) (defBody t_law_draws) (defScope t_law_draws) .none kV_law_draws dc_law_draws pm_law_draws an_law_draws cd_law_draws ct_law_draws), sl_law_draws⟩)
    (c_law_draws : PySem.W.codeIn K cd_law_draws "_law_draws" = true)
    (k_law_draws : PySem.W.keepIn K (.ref f_law_draws) = true)
    (a_law_next : PySem.W.nsIn K mainGlobals "_law_next" = some (some (.ref f_law_next)))
    (l_law_next : K.lookup f_law_next = some ⟨oc_law_next, od_law_next, .func (PySem.W.fnOf "_law_next" "_law_next" (defArgs t_law_next) (defBody t_law_next) (defScope t_law_next) .none kV_law_next dc_law_next pm_law_next an_law_next cd_law_next ct_law_next), sl_law_next⟩)
    (c_law_next : PySem.W.codeIn K cd_law_next "_law_next" = true)
    (k_law_next : PySem.W.keepIn K (.ref f_law_next) = true)
    (a_law_renamed : PySem.W.nsIn K mainGlobals "_law_renamed" = some (some (.ref f_law_renamed)))
    (l_law_renamed : K.lookup f_law_renamed = some ⟨oc_law_renamed, od_law_renamed, .func (PySem.W.fnOf "_law_renamed" "_law_renamed" (defArgs t_law_renamed) (defBody t_law_renamed) (defScope t_law_renamed) .none kV_law_renamed dc_law_renamed pm_law_renamed an_law_renamed cd_law_renamed ct_law_renamed), sl_law_renamed⟩)
    (c_law_renamed : PySem.W.codeIn K cd_law_renamed "_law_renamed" = true)
    (k_law_renamed : PySem.W.keepIn K (.ref f_law_renamed) = true)
    (a_law_kept : PySem.W.nsIn K mainGlobals "_law_kept" = some (some (.ref f_law_kept)))
    (l_law_kept : K.lookup f_law_kept = some ⟨oc_law_kept, od_law_kept, .func (PySem.W.fnOf "_law_kept" "_law_kept" (defArgs t_law_kept) (defBody t_law_kept) (defScope t_law_kept) .none kV_law_kept dc_law_kept pm_law_kept an_law_kept cd_law_kept ct_law_kept), sl_law_kept⟩)
    (c_law_kept : PySem.W.codeIn K cd_law_kept "_law_kept" = true)
    (k_law_kept : PySem.W.keepIn K (.ref f_law_kept) = true)
    (a_number_of : PySem.W.nsIn K mainGlobals "number_of" = some (some (.ref f_number_of)))
    (l_number_of : K.lookup f_number_of = some ⟨oc_number_of, od_number_of, .func (PySem.W.fnOf "number_of" "number_of" (defArgs t_number_of) (defBody t_number_of) (defScope t_number_of) .none kV_number_of dc_number_of pm_number_of an_number_of cd_number_of ct_number_of), sl_number_of⟩)
    (c_number_of : PySem.W.codeIn K cd_number_of "number_of" = true)
    (k_number_of : PySem.W.keepIn K (.ref f_number_of) = true)
    (a_image_within : PySem.W.nsIn K mainGlobals "image_within" = some (some (.ref f_image_within)))
    (l_image_within : K.lookup f_image_within = some ⟨oc_image_within, od_image_within, .func (PySem.W.fnOf "image_within" "image_within" (defArgs t_image_within) (defBody t_image_within) (defScope t_image_within) .none kV_image_within dc_image_within pm_image_within an_image_within cd_image_within ct_image_within), sl_image_within⟩)
    (c_image_within : PySem.W.codeIn K cd_image_within "image_within" = true)
    (k_image_within : PySem.W.keepIn K (.ref f_image_within) = true)
    (a_behind : PySem.W.nsIn K mainGlobals "behind" = some (some (.ref f_behind)))
    (l_behind : K.lookup f_behind = some ⟨oc_behind, od_behind, .func (PySem.W.fnOf "behind" "behind" (defArgs t_behind) (defBody t_behind) (defScope t_behind) .none kV_behind dc_behind pm_behind an_behind cd_behind ct_behind), sl_behind⟩)
    (c_behind : PySem.W.codeIn K cd_behind "behind" = true)
    (k_behind : PySem.W.keepIn K (.ref f_behind) = true)
    (a_law_ends_free : PySem.W.nsIn K mainGlobals "_law_ends_free" = some (some (.ref f_law_ends_free)))
    (l_law_ends_free : K.lookup f_law_ends_free = some ⟨oc_law_ends_free, od_law_ends_free, .func (PySem.W.fnOf "_law_ends_free" "_law_ends_free" (defArgs t_law_ends_free) (defBody t_law_ends_free) (defScope t_law_ends_free) .none kV_law_ends_free dc_law_ends_free pm_law_ends_free an_law_ends_free cd_law_ends_free ct_law_ends_free), sl_law_ends_free⟩)
    (c_law_ends_free : PySem.W.codeIn K cd_law_ends_free "_law_ends_free" = true)
    (k_law_ends_free : PySem.W.keepIn K (.ref f_law_ends_free) = true)
    (a_law_free : PySem.W.nsIn K mainGlobals "_law_free" = some (some (.ref f_law_free)))
    (l_law_free : K.lookup f_law_free = some ⟨oc_law_free, od_law_free, .func (PySem.W.fnOf "_law_free" "_law_free" (defArgs t_law_free) (defBody t_law_free) (defScope t_law_free) .none kV_law_free dc_law_free pm_law_free an_law_free cd_law_free ct_law_free), sl_law_free⟩)
    (c_law_free : PySem.W.codeIn K cd_law_free "_law_free" = true)
    (k_law_free : PySem.W.keepIn K (.ref f_law_free) = true)
    (a_image : PySem.W.nsIn K mainGlobals "image" = some (some (.ref f_image)))
    (l_image : K.lookup f_image = some ⟨oc_image, od_image, .func (PySem.W.fnOf "image" "image" (defArgs t_image) (defBody t_image) (defScope t_image) .none kV_image dc_image pm_image an_image cd_image ct_image), sl_image⟩)
    (c_image : PySem.W.codeIn K cd_image "image" = true)
    (k_image : PySem.W.keepIn K (.ref f_image) = true)
    (a_law_longer : PySem.W.nsIn K mainGlobals "_law_longer" = some (some (.ref f_law_longer)))
    (l_law_longer : K.lookup f_law_longer = some ⟨oc_law_longer, od_law_longer, .func (PySem.W.fnOf "_law_longer" "_law_longer" (defArgs t_law_longer) (defBody t_law_longer) (defScope t_law_longer) .none kV_law_longer dc_law_longer pm_law_longer an_law_longer cd_law_longer ct_law_longer), sl_law_longer⟩)
    (c_law_longer : PySem.W.codeIn K cd_law_longer "_law_longer" = true)
    (k_law_longer : PySem.W.keepIn K (.ref f_law_longer) = true)
    (a_law_looked : PySem.W.nsIn K mainGlobals "_law_looked" = some (some (.ref f_law_looked)))
    (l_law_looked : K.lookup f_law_looked = some ⟨oc_law_looked, od_law_looked, .func (PySem.W.fnOf "_law_looked" "_law_looked" (defArgs t_law_looked) (defBody t_law_looked) (defScope t_law_looked) .none kV_law_looked dc_law_looked pm_law_looked an_law_looked cd_law_looked ct_law_looked), sl_law_looked⟩)
    (c_law_looked : PySem.W.codeIn K cd_law_looked "_law_looked" = true)
    (k_law_looked : PySem.W.keepIn K (.ref f_law_looked) = true)
    (a_law_whole : PySem.W.nsIn K mainGlobals "_law_whole" = some (some (.ref f_law_whole)))
    (l_law_whole : K.lookup f_law_whole = some ⟨oc_law_whole, od_law_whole, .func (PySem.W.fnOf "_law_whole" "_law_whole" (defArgs t_law_whole) (defBody t_law_whole) (defScope t_law_whole) .none kV_law_whole dc_law_whole pm_law_whole an_law_whole cd_law_whole ct_law_whole), sl_law_whole⟩)
    (c_law_whole : PySem.W.codeIn K cd_law_whole "_law_whole" = true)
    (k_law_whole : PySem.W.keepIn K (.ref f_law_whole) = true)
    (a_law_all_same : PySem.W.nsIn K mainGlobals "_law_all_same" = some (some (.ref f_law_all_same)))
    (l_law_all_same : K.lookup f_law_all_same = some ⟨oc_law_all_same, od_law_all_same, .func (PySem.W.fnOf "_law_all_same" "_law_all_same" (defArgs t_law_all_same) (defBody t_law_all_same) (defScope t_law_all_same) .none kV_law_all_same dc_law_all_same pm_law_all_same an_law_all_same cd_law_all_same ct_law_all_same), sl_law_all_same⟩)
    (c_law_all_same : PySem.W.codeIn K cd_law_all_same "_law_all_same" = true)
    (k_law_all_same : PySem.W.keepIn K (.ref f_law_all_same) = true)
    (a_law_same : PySem.W.nsIn K mainGlobals "_law_same" = some (some (.ref f_law_same)))
    (l_law_same : K.lookup f_law_same = some ⟨oc_law_same, od_law_same, .func (PySem.W.fnOf "_law_same" "_law_same" (defArgs t_law_same) (defBody t_law_same) (defScope t_law_same) .none kV_law_same dc_law_same pm_law_same an_law_same cd_law_same ct_law_same), sl_law_same⟩)
    (c_law_same : PySem.W.codeIn K cd_law_same "_law_same" = true)
    (k_law_same : PySem.W.keepIn K (.ref f_law_same) = true)
    (a_law_put : PySem.W.nsIn K mainGlobals "_law_put" = some (some (.ref f_law_put)))
    (l_law_put : K.lookup f_law_put = some ⟨oc_law_put, od_law_put, .func (PySem.W.fnOf "_law_put" "_law_put" (defArgs t_law_put) (defBody t_law_put) (defScope t_law_put) .none kV_law_put dc_law_put pm_law_put an_law_put cd_law_put ct_law_put), sl_law_put⟩)
    (c_law_put : PySem.W.codeIn K cd_law_put "_law_put" = true)
    (k_law_put : PySem.W.keepIn K (.ref f_law_put) = true)
    (a_law_double : PySem.W.nsIn K mainGlobals "_law_double" = some (some (.ref f_law_double)))
    (l_law_double : K.lookup f_law_double = some ⟨oc_law_double, od_law_double, .func (PySem.W.fnOf "_law_double" "_law_double" (defArgs t_law_double) (defBody t_law_double) (defScope t_law_double) .none kV_law_double dc_law_double pm_law_double an_law_double cd_law_double ct_law_double), sl_law_double⟩)
    (c_law_double : PySem.W.codeIn K cd_law_double "_law_double" = true)
    (k_law_double : PySem.W.keepIn K (.ref f_law_double) = true)
    (a_looked_length : PySem.W.nsIn K mainGlobals "looked_length" = some (some (.ref f_looked_length)))
    (l_looked_length : K.lookup f_looked_length = some ⟨oc_looked_length, od_looked_length, .func (PySem.W.fnOf "looked_length" "looked_length" (defArgs t_looked_length) (defBody t_looked_length) (defScope t_looked_length) .none kV_looked_length dc_looked_length pm_looked_length an_looked_length cd_looked_length ct_looked_length), sl_looked_length⟩)
    (c_looked_length : PySem.W.codeIn K cd_looked_length "looked_length" = true)
    (k_looked_length : PySem.W.keepIn K (.ref f_looked_length) = true)
    (a_letters : PySem.W.nsIn K mainGlobals "letters" = some (some (.ref f_letters)))
    (l_letters : K.lookup f_letters = some ⟨oc_letters, od_letters, .func (PySem.W.fnOf "letters" "letters" (defArgs t_letters) (defBody t_letters) (defScope t_letters) .none kV_letters dc_letters pm_letters an_letters cd_letters ct_letters), sl_letters⟩)
    (c_letters : PySem.W.codeIn K cd_letters "letters" = true)
    (k_letters : PySem.W.keepIn K (.ref f_letters) = true)
    (a_ends_free : PySem.W.nsIn K mainGlobals "ends_free" = some (some (.ref f_ends_free)))
    (l_ends_free : K.lookup f_ends_free = some ⟨oc_ends_free, od_ends_free, .func (PySem.W.fnOf "ends_free" "ends_free" (defArgs t_ends_free) (defBody t_ends_free) (defScope t_ends_free) .none kV_ends_free dc_ends_free pm_ends_free an_ends_free cd_ends_free ct_ends_free), sl_ends_free⟩)
    (c_ends_free : PySem.W.codeIn K cd_ends_free "ends_free" = true)
    (k_ends_free : PySem.W.keepIn K (.ref f_ends_free) = true)
    (a_made_longer : PySem.W.nsIn K mainGlobals "made_longer" = some (some (.ref f_made_longer)))
    (l_made_longer : K.lookup f_made_longer = some ⟨oc_made_longer, od_made_longer, .func (PySem.W.fnOf "made_longer" "made_longer" (defArgs t_made_longer) (defBody t_made_longer) (defScope t_made_longer) .none kV_made_longer dc_made_longer pm_made_longer an_made_longer cd_made_longer ct_made_longer), sl_made_longer⟩)
    (c_made_longer : PySem.W.codeIn K cd_made_longer "made_longer" = true)
    (k_made_longer : PySem.W.keepIn K (.ref f_made_longer) = true)
    (a_least_breaking : PySem.W.nsIn K mainGlobals "least_breaking" = some (some (.ref f_least_breaking)))
    (l_least_breaking : K.lookup f_least_breaking = some ⟨oc_least_breaking, od_least_breaking, .func (PySem.W.fnOf "least_breaking" "least_breaking" (defArgs t_least_breaking) (defBody t_least_breaking) (defScope t_least_breaking) .none kV_least_breaking dc_least_breaking pm_least_breaking an_least_breaking cd_least_breaking ct_least_breaking), sl_least_breaking⟩)
    (c_least_breaking : PySem.W.codeIn K cd_least_breaking "least_breaking" = true)
    (k_least_breaking : PySem.W.keepIn K (.ref f_least_breaking) = true)
    (a_repeat_in : PySem.W.nsIn K mainGlobals "repeat_in" = some (some (.ref f_repeat_in)))
    (l_repeat_in : K.lookup f_repeat_in = some ⟨oc_repeat_in, od_repeat_in, .func (PySem.W.fnOf "repeat_in" "repeat_in" (defArgs t_repeat_in) (defBody t_repeat_in) (defScope t_repeat_in) .none kV_repeat_in dc_repeat_in pm_repeat_in an_repeat_in cd_repeat_in ct_repeat_in), sl_repeat_in⟩)
    (c_repeat_in : PySem.W.codeIn K cd_repeat_in "repeat_in" = true)
    (k_repeat_in : PySem.W.keepIn K (.ref f_repeat_in) = true)
    (a_keeps : PySem.W.nsIn K mainGlobals "keeps" = some (some (.ref f_keeps)))
    (l_keeps : K.lookup f_keeps = some ⟨oc_keeps, od_keeps, .func (PySem.W.fnOf "keeps" "keeps" (defArgs t_keeps) (defBody t_keeps) (defScope t_keeps) .none kV_keeps dc_keeps pm_keeps an_keeps cd_keeps ct_keeps), sl_keeps⟩)
    (c_keeps : PySem.W.codeIn K cd_keeps "keeps" = true)
    (k_keeps : PySem.W.keepIn K (.ref f_keeps) = true)
    (a_law : PySem.W.nsIn K mainGlobals "law" = some (some (.ref f_law)))
    (l_law : K.lookup f_law = some ⟨oc_law, od_law, .func (PySem.W.fnOf "law" "law" (defArgs t_law) (defBody t_law) (defScope t_law) .none kV_law dc_law pm_law an_law cd_law ct_law), sl_law⟩)
    (c_law : PySem.W.codeIn K cd_law "law" = true)
    (k_law : PySem.W.keepIn K (.ref f_law) = true)
    (z_bool : PySem.W.nsIn K mainGlobals "bool" = some none)
    (z_enumerate : PySem.W.nsIn K mainGlobals "enumerate" = some none)
    (z_int : PySem.W.nsIn K mainGlobals "int" = some none)
    (z_isinstance : PySem.W.nsIn K mainGlobals "isinstance" = some none)
    (z_len : PySem.W.nsIn K mainGlobals "len" = some none)
    (z_list : PySem.W.nsIn K mainGlobals "list" = some none)
    (z_max : PySem.W.nsIn K mainGlobals "max" = some none)
    (z_min : PySem.W.nsIn K mainGlobals "min" = some none)
    (z_range : PySem.W.nsIn K mainGlobals "range" = some none)
    (z_str : PySem.W.nsIn K mainGlobals "str" = some none)
    (z_sum : PySem.W.nsIn K mainGlobals "sum" = some none)
    (z_tuple : PySem.W.nsIn K mainGlobals "tuple" = some none)
    (z_zip : PySem.W.nsIn K mainGlobals "zip" = some none)
    {u0_DOUBLES u1_DOUBLES : Tok} {ga_DOUBLES : Addr} {go_DOUBLES : Option Addr} {gn_DOUBLES : Nat} {gl_DOUBLES : Array (Option Value)} (w_DOUBLES : PySem.W.nsIn K mainGlobals "DOUBLES" = some (some (.ref ga_DOUBLES)))
    (v_DOUBLES : K.lookup ga_DOUBLES = some ⟨.type "tuple", go_DOUBLES, .seq #[.int 2 u0_DOUBLES, .int 1 u1_DOUBLES, .bool false] gn_DOUBLES, gl_DOUBLES⟩)
    {u_LETTERS : Tok} (w_LETTERS : PySem.W.nsIn K mainGlobals "LETTERS" = some (some (.str "abcd" u_LETTERS)))
    {u_MOST_IMAGE : Tok} (w_MOST_IMAGE : PySem.W.nsIn K mainGlobals "MOST_IMAGE" = some (some (.int 20000 u_MOST_IMAGE)))
    {u_MOST_LOOKED : Tok} (w_MOST_LOOKED : PySem.W.nsIn K mainGlobals "MOST_LOOKED" = some (some (.int 800 u_MOST_LOOKED)))
    {u_MOST_WORD_keeping : Tok} (w_MOST_WORD_keeping : PySem.W.nsIn K mainGlobals "MOST_WORD_keeping" = some (some (.int 12 u_MOST_WORD_keeping)))
    {u_MOST_WORD_rules : Tok} (w_MOST_WORD_rules : PySem.W.nsIn K mainGlobals "MOST_WORD_rules" = some (some (.int 100 u_MOST_WORD_rules))) :
    ∃ fd : FuncData, (∀ (s : Shared) (v : Value), BindsTo s fd ⟨[v], []⟩ [("_law_script", v)]) ∧ ∀ base : Heap, K.In base → base.Ns mainGlobals mg → FnOk l.prog w K mg base (L2.CX l.prog w) 12 fa fd ["_law_script"] (spD K Z0 1 s_law) := by
  have e := hfa.symm.trans (PySem.W.mg_of X G a_law)
  cases e
  have F_law_draws := fun_mk (st := t_law_draws) l_law_draws c_law_draws k_law_draws
  have b_law_draws := F_law_draws.binds (ps := ["_law_script"]) fun _ _ _ _ _ _ us hl => match us, hl with | [_], _ => rfl
  have F_law_next := fun_mk (st := t_law_next) l_law_next c_law_next k_law_next
  have b_law_next := F_law_next.binds (ps := ["_law_drawn"]) fun _ _ _ _ _ _ us hl => match us, hl with | [_], _ => rfl
  have F_law_renamed := fun_mk (st := t_law_renamed) l_law_renamed c_law_renamed k_law_renamed
  have b_law_renamed := F_law_renamed.binds (ps := ["_law_word", "_law_turn"]) fun _ _ _ _ _ _ us hl => match us, hl with | [_, _], _ => rfl
  have F_law_kept := fun_mk (st := t_law_kept) l_law_kept c_law_kept k_law_kept
  have b_law_kept := F_law_kept.binds (ps := ["_law_drawn"]) fun _ _ _ _ _ _ us hl => match us, hl with | [_], _ => rfl
  have F_number_of := fun_mk (st := t_number_of) l_number_of c_number_of k_number_of
  have b_number_of := F_number_of.binds (ps := ["letter"]) fun _ _ _ _ _ _ us hl => match us, hl with | [_], _ => rfl
  have F_image_within := fun_mk (st := t_image_within) l_image_within c_image_within k_image_within
  have b_image_within := F_image_within.binds (ps := ["rule", "word", "most"]) fun _ _ _ _ _ _ us hl => match us, hl with | [_, _, _], _ => rfl
  have F_behind := fun_mk (st := t_behind) l_behind c_behind k_behind
  have b_behind := F_behind.binds (ps := ["first", "later"]) fun _ _ _ _ _ _ us hl => match us, hl with | [_, _], _ => rfl
  have F_law_ends_free := fun_mk (st := t_law_ends_free) l_law_ends_free c_law_ends_free k_law_ends_free
  have b_law_ends_free := F_law_ends_free.binds (ps := ["_law_word"]) fun _ _ _ _ _ _ us hl => match us, hl with | [_], _ => rfl
  have F_law_free := fun_mk (st := t_law_free) l_law_free c_law_free k_law_free
  have b_law_free := F_law_free.binds (ps := ["_law_drawn", "_law_many", "_law_size"]) fun _ _ _ _ _ _ us hl => match us, hl with | [_, _, _], _ => rfl
  have F_image := fun_mk (st := t_image) l_image c_image k_image
  have b_image := F_image.binds (ps := ["rule", "word"]) fun _ _ _ _ _ _ us hl => match us, hl with | [_, _], _ => rfl
  have F_law_longer := fun_mk (st := t_law_longer) l_law_longer c_law_longer k_law_longer
  have b_law_longer := F_law_longer.binds (ps := ["_law_words"]) fun _ _ _ _ _ _ us hl => match us, hl with | [_], _ => rfl
  have F_law_looked := fun_mk (st := t_law_looked) l_law_looked c_law_looked k_law_looked
  have b_law_looked := F_law_looked.binds (ps := []) fun _ _ _ _ _ _ us hl => match us, hl with | [], _ => rfl
  have F_law_whole := fun_mk (st := t_law_whole) l_law_whole c_law_whole k_law_whole
  have b_law_whole := F_law_whole.binds (ps := ["_law_found"]) fun _ _ _ _ _ _ us hl => match us, hl with | [_], _ => rfl
  have F_law_all_same := fun_mk (st := t_law_all_same) l_law_all_same c_law_all_same k_law_all_same
  have b_law_all_same := F_law_all_same.binds (ps := ["_law_found", "_law_due"]) fun _ _ _ _ _ _ us hl => match us, hl with | [_, _], _ => rfl
  have F_law_same := fun_mk (st := t_law_same) l_law_same c_law_same k_law_same
  have b_law_same := F_law_same.binds (ps := ["_law_found", "_law_due"]) fun _ _ _ _ _ _ us hl => match us, hl with | [_, _], _ => rfl
  have F_law_put := fun_mk (st := t_law_put) l_law_put c_law_put k_law_put
  have b_law_put := F_law_put.binds (ps := ["_law_rule", "_law_word"]) fun _ _ _ _ _ _ us hl => match us, hl with | [_, _], _ => rfl
  have F_law_double := fun_mk (st := t_law_double) l_law_double c_law_double k_law_double
  have b_law_double := F_law_double.binds (ps := ["_law_word"]) fun _ _ _ _ _ _ us hl => match us, hl with | [_], _ => rfl
  have F_looked_length := fun_mk (st := t_looked_length) l_looked_length c_looked_length k_looked_length
  have b_looked_length := F_looked_length.binds (ps := ["rule"]) fun _ _ _ _ _ _ us hl => match us, hl with | [_], _ => rfl
  have F_letters := fun_mk (st := t_letters) l_letters c_letters k_letters
  have b_letters := F_letters.binds (ps := ["many"]) fun _ _ _ _ _ _ us hl => match us, hl with | [_], _ => rfl
  have F_ends_free := fun_mk (st := t_ends_free) l_ends_free c_ends_free k_ends_free
  have b_ends_free := F_ends_free.binds (ps := ["word"]) fun _ _ _ _ _ _ us hl => match us, hl with | [_], _ => rfl
  have F_made_longer := fun_mk (st := t_made_longer) l_made_longer c_made_longer k_made_longer
  have b_made_longer := F_made_longer.binds (ps := ["words", "many"]) fun _ _ _ _ _ _ us hl => match us, hl with | [_, _], _ => rfl
  have F_least_breaking := fun_mk (st := t_least_breaking) l_least_breaking c_least_breaking k_least_breaking
  have b_least_breaking := F_least_breaking.binds (ps := ["limit", "period"]) fun _ _ _ _ _ _ us hl => match us, hl with | [_, _], _ => rfl
  have F_repeat_in := fun_mk (st := t_repeat_in) l_repeat_in c_repeat_in k_repeat_in
  have b_repeat_in := F_repeat_in.binds (ps := ["word", "limit"]) fun _ _ _ _ _ _ us hl => match us, hl with | [_, _], _ => rfl
  have F_keeps := fun_mk (st := t_keeps) l_keeps c_keeps k_keeps
  have b_keeps := F_keeps.binds (ps := ["rule"]) fun _ _ _ _ _ _ us hl => match us, hl with | [_], _ => rfl
  have F_law := fun_mk (st := t_law) l_law c_law k_law
  have b_law := F_law.binds (ps := ["_law_script"]) fun _ _ _ _ _ _ us hl => match us, hl with | [_], _ => rfl
  exact ⟨_, fun s v => .of_eq rfl, fun base _ _ => ok_law (⟨_, _, F_law_draws, b_law_draws, PySem.W.mg_of X G a_law_draws,
    _, _, F_law_next, b_law_next, PySem.W.mg_of X G a_law_next,
    _, _, F_law_renamed, b_law_renamed, PySem.W.mg_of X G a_law_renamed,
    _, _, F_law_kept, b_law_kept, PySem.W.mg_of X G a_law_kept,
    _, _, F_number_of, b_number_of, PySem.W.mg_of X G a_number_of,
    _, _, F_image_within, b_image_within, PySem.W.mg_of X G a_image_within,
    _, _, F_behind, b_behind, PySem.W.mg_of X G a_behind,
    _, _, F_law_ends_free, b_law_ends_free, PySem.W.mg_of X G a_law_ends_free,
    _, _, F_law_free, b_law_free, PySem.W.mg_of X G a_law_free,
    _, _, F_image, b_image, PySem.W.mg_of X G a_image,
    _, _, F_law_longer, b_law_longer, PySem.W.mg_of X G a_law_longer,
    _, _, F_law_looked, b_law_looked, PySem.W.mg_of X G a_law_looked,
    _, _, F_law_whole, b_law_whole, PySem.W.mg_of X G a_law_whole,
    _, _, F_law_all_same, b_law_all_same, PySem.W.mg_of X G a_law_all_same,
    _, _, F_law_same, b_law_same, PySem.W.mg_of X G a_law_same,
    _, _, F_law_put, b_law_put, PySem.W.mg_of X G a_law_put,
    _, _, F_law_double, b_law_double, PySem.W.mg_of X G a_law_double,
    _, _, F_looked_length, b_looked_length, PySem.W.mg_of X G a_looked_length,
    _, _, F_letters, b_letters, PySem.W.mg_of X G a_letters,
    _, _, F_ends_free, b_ends_free, PySem.W.mg_of X G a_ends_free,
    _, _, F_made_longer, b_made_longer, PySem.W.mg_of X G a_made_longer,
    _, _, F_least_breaking, b_least_breaking, PySem.W.mg_of X G a_least_breaking,
    _, _, F_repeat_in, b_repeat_in, PySem.W.mg_of X G a_repeat_in,
    _, _, F_keeps, b_keeps, PySem.W.mg_of X G a_keeps,
    _, _, F_law, b_law, PySem.W.mg_of X G a_law,
    PySem.W.mg_none_of X G z_bool,
    PySem.W.mg_none_of X G z_enumerate,
    PySem.W.mg_none_of X G z_int,
    PySem.W.mg_none_of X G z_isinstance,
    PySem.W.mg_none_of X G z_len,
    PySem.W.mg_none_of X G z_list,
    PySem.W.mg_none_of X G z_max,
    PySem.W.mg_none_of X G z_min,
    PySem.W.mg_none_of X G z_range,
    PySem.W.mg_none_of X G z_str,
    PySem.W.mg_none_of X G z_sum,
    PySem.W.mg_none_of X G z_tuple,
    PySem.W.mg_none_of X G z_zip,
    (gt_mk (its := [_, _, _]) (vs := [.int 2, .int 1, .bl false]) (PySem.W.mg_of X G w_DOUBLES) v_DOUBLES (Nat.le_of_ble_eq_true rfl) (.cons ⟨_, rfl⟩ (.cons ⟨_, rfl⟩ (.cons rfl .nil))) (fun _ => (.cons (.int _) (.cons (.int _) (.cons (.bl _) .nil)))) : GTup K mg "DOUBLES" c_DOUBLES),
    ⟨_, PySem.W.mg_of X G w_LETTERS, ⟨_, rfl⟩⟩,
    ⟨_, PySem.W.mg_of X G w_MOST_IMAGE, ⟨_, rfl⟩⟩,
    ⟨_, PySem.W.mg_of X G w_MOST_LOOKED, ⟨_, rfl⟩⟩,
    ⟨_, PySem.W.mg_of X G w_MOST_WORD_keeping, ⟨_, rfl⟩⟩,
    ⟨_, PySem.W.mg_of X G w_MOST_WORD_rules, ⟨_, rfl⟩⟩⟩ : Tab K mg)⟩
end NV.K65

open PySem PySem.W PyProof.Rows
set_option maxHeartbeats 0 in
theorem PySem.Challenge.cw_neveragain_k65_whole_behind_keeps_holds : PySem.Challenge.rw_neveragain_k65_whole_behind_keeps.Holds := by
  w_on; o_law; k_head; (case hw => w_witness2)
  k_fill
  refine L2.walk_of (l := PySem.Challenge.rw_neveragain_k65_whole_behind_keeps) (n := 63) (k := 12) (x := "_law_script") (CX := fun w => L2.CX PySem.Challenge.rw_neveragain_k65_whole_behind_keeps.prog w) (sp := fun w => NV.spD _ NV.Z0 1 NV.K65.s_law) rfl (by decide) rfl ⟨rfl, by decide, by decide⟩ (fun w h Y => PySem.W.kIn_of Y) ?F (fun _ _ a ns hl _ hS => by obtain ⟨as, h⟩ := NV.K65.law_holds ns hl; exact NV.law_sp hS h) (fun _ _ _ _ _ h => by obtain ⟨_, _, _, _, _, _, _, _, _, _, _, _, z⟩ := h; exact z)
  case F =>
    intro w mg fa h KX G hmg
    refine' NV.K65.all_mk KX G hmg ?a_law_draws ?l_law_draws ?c_law_draws ?k_law_draws ?a_law_next ?l_law_next ?c_law_next ?k_law_next ?a_law_renamed ?l_law_renamed ?c_law_renamed ?k_law_renamed ?a_law_kept ?l_law_kept ?c_law_kept ?k_law_kept ?a_number_of ?l_number_of ?c_number_of ?k_number_of ?a_image_within ?l_image_within ?c_image_within ?k_image_within ?a_behind ?l_behind ?c_behind ?k_behind ?a_law_ends_free ?l_law_ends_free ?c_law_ends_free ?k_law_ends_free ?a_law_free ?l_law_free ?c_law_free ?k_law_free ?a_image ?l_image ?c_image ?k_image ?a_law_longer ?l_law_longer ?c_law_longer ?k_law_longer ?a_law_looked ?l_law_looked ?c_law_looked ?k_law_looked ?a_law_whole ?l_law_whole ?c_law_whole ?k_law_whole ?a_law_all_same ?l_law_all_same ?c_law_all_same ?k_law_all_same ?a_law_same ?l_law_same ?c_law_same ?k_law_same ?a_law_put ?l_law_put ?c_law_put ?k_law_put ?a_law_double ?l_law_double ?c_law_double ?k_law_double ?a_looked_length ?l_looked_length ?c_looked_length ?k_looked_length ?a_letters ?l_letters ?c_letters ?k_letters ?a_ends_free ?l_ends_free ?c_ends_free ?k_ends_free ?a_made_longer ?l_made_longer ?c_made_longer ?k_made_longer ?a_least_breaking ?l_least_breaking ?c_least_breaking ?k_least_breaking ?a_repeat_in ?l_repeat_in ?c_repeat_in ?k_repeat_in ?a_keeps ?l_keeps ?c_keeps ?k_keeps ?a_law ?l_law ?c_law ?k_law ?z_bool ?z_enumerate ?z_int ?z_isinstance ?z_len ?z_list ?z_max ?z_min ?z_range ?z_str ?z_sum ?z_tuple ?z_zip ?w_DOUBLES ?v_DOUBLES ?w_LETTERS ?w_63_IMAGE ?w_63_LOOKED ?w_63_WORD_keeping ?w_63_WORD_rules
    (case a_law_draws => k_is); (case l_law_draws => k_is); (case c_law_draws => k_is); (case k_law_draws => k_is); (case a_law_next => k_is); (case l_law_next => k_is); (case c_law_next => k_is); (case k_law_next => k_is); (case a_law_renamed => k_is); (case l_law_renamed => k_is); (case c_law_renamed => k_is); (case k_law_renamed => k_is); (case a_law_kept => k_is); (case l_law_kept => k_is); (case c_law_kept => k_is); (case k_law_kept => k_is); (case a_number_of => k_is); (case l_number_of => k_is); (case c_number_of => k_is); (case k_number_of => k_is); (case a_image_within => k_is); (case l_image_within => k_is); (case c_image_within => k_is); (case k_image_within => k_is); (case a_behind => k_is); (case l_behind => k_is); (case c_behind => k_is); (case k_behind => k_is); (case a_law_ends_free => k_is); (case l_law_ends_free => k_is); (case c_law_ends_free => k_is); (case k_law_ends_free => k_is); (case a_law_free => k_is); (case l_law_free => k_is); (case c_law_free => k_is); (case k_law_free => k_is); (case a_image => k_is); (case l_image => k_is); (case c_image => k_is); (case k_image => k_is); (case a_law_longer => k_is); (case l_law_longer => k_is); (case c_law_longer => k_is); (case k_law_longer => k_is); (case a_law_looked => k_is); (case l_law_looked => k_is); (case c_law_looked => k_is); (case k_law_looked => k_is); (case a_law_whole => k_is); (case l_law_whole => k_is); (case c_law_whole => k_is); (case k_law_whole => k_is); (case a_law_all_same => k_is); (case l_law_all_same => k_is); (case c_law_all_same => k_is); (case k_law_all_same => k_is); (case a_law_same => k_is); (case l_law_same => k_is); (case c_law_same => k_is); (case k_law_same => k_is); (case a_law_put => k_is); (case l_law_put => k_is); (case c_law_put => k_is); (case k_law_put => k_is); (case a_law_double => k_is); (case l_law_double => k_is); (case c_law_double => k_is); (case k_law_double => k_is); (case a_looked_length => k_is); (case l_looked_length => k_is); (case c_looked_length => k_is); (case k_looked_length => k_is); (case a_letters => k_is); (case l_letters => k_is); (case c_letters => k_is); (case k_letters => k_is); (case a_ends_free => k_is); (case l_ends_free => k_is); (case c_ends_free => k_is); (case k_ends_free => k_is); (case a_made_longer => k_is); (case l_made_longer => k_is); (case c_made_longer => k_is); (case k_made_longer => k_is); (case a_least_breaking => k_is); (case l_least_breaking => k_is); (case c_least_breaking => k_is); (case k_least_breaking => k_is); (case a_repeat_in => k_is); (case l_repeat_in => k_is); (case c_repeat_in => k_is); (case k_repeat_in => k_is); (case a_keeps => k_is); (case l_keeps => k_is); (case c_keeps => k_is); (case k_keeps => k_is); (case a_law => k_is); (case l_law => k_is); (case c_law => k_is); (case k_law => k_is); (case z_bool => k_is); (case z_enumerate => k_is); (case z_int => k_is); (case z_isinstance => k_is); (case z_len => k_is); (case z_list => k_is); (case z_max => k_is); (case z_min => k_is); (case z_range => k_is); (case z_str => k_is); (case z_sum => k_is); (case z_tuple => k_is); (case z_zip => k_is); (case w_DOUBLES => k_is); (case v_DOUBLES => k_is); (case w_LETTERS => k_is); (case w_63_IMAGE => k_is); (case w_63_LOOKED => k_is); (case w_63_WORD_keeping => k_is); (case w_63_WORD_rules => k_is)

