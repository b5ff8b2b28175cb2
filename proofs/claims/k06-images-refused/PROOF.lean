import PyProof.Rows.All
import Wide.All
import OpenK.AllK
import Wide.FinOn
import HandS.ForMost
import HandS.Exc
import HandS.TryOnly
import HandS.ExcOwn
import HandS.WordsExc
import HandS.Walk
import HandS.Wide
import HandS.TupAny
import PyProof.StrBlock2
import HandS.Style
import HandS.IsInst
import HandS.Replace
import HandS.StrMore
import KE.KRevSl
import KE.GoesMore
import PyProof.LongRange
import HandS.SortKw
import KE.DatumOrd
import HandS.ExcInit
import HandS.ExcField
import HandS.Defaults
import KE.KExcIs
import HandS.ExcIs
import HandS.Small
import HandS.Rev
import HandS.MapObj
import HandS.SortInts
import HandS.More
import HandS.Zip
import HandS.ExcValue
import KE.KSortTup
import KE.KSortTupAny
import HandS.SetFor
import HandS.Strs
import HandS.SetTxt0
import HandS.SetTxtIn
import PyProof.Rows.SortShellAny
import HandS.ReplaceList
import PyProof.ToksMono
import HandS.Deep
import HandS.HotCalls
import PyProof.ListStr
import HandS.WideBits
import KE.GoesRaise
import PySem.Challenge.RW_neveragain_k06_images_refused
set_option Elab.async false
set_option linter.all false
/-! Sem: plain data and what statements and expressions do to it. No heap here. -/
namespace NV

/-- the longest list, the longest text -/
def line : Nat := 16777216
/-- a bound for numbers: two of them may be multiplied -/
def big : Nat := 2 ^ 100000

inductive D where
  | non
  | bl (b : Bool)
  | int (i : Int)
  | str (s : List Nat)
  | tup (xs : List D)
  | lst (xs : List D)
  | dct (es : List (List Nat × D))
  | obj (c : Nat) (fs : List (List Nat × D))
  | exc (k : Nat) (m : List D)
  | scr (xs : List D)

mutual
def D.eqv : D → D → Bool
  | .non, .non => true
  | .bl a, .bl b => a == b
  | .bl a, .int j => (if a then 1 else 0) == j
  | .int i, .bl b => i == (if b then 1 else 0)
  | .int i, .int j => i == j
  | .str s, .str t => s == t
  | .tup xs, .tup ys => D.eqvs xs ys
  | .lst xs, .lst ys => D.eqvs xs ys
  | _, _ => false
def D.eqvs : List D → List D → Bool
  | [], [] => true
  | x :: xs, y :: ys => D.eqv x y && D.eqvs xs ys
  | _, _ => false
end
mutual
/-- no dict or instance within, at most so deep -/
def D.lv : Nat → D → Bool
  | _, .non => true
  | _, .bl _ => true
  | _, .int _ => true
  | _, .str s => s.all fun c => decide (c < 1114112)
  | 0, .tup _ => false
  | 0, .lst _ => false
  | n + 1, .tup xs => D.lvs n xs
  | n + 1, .lst xs => D.lvs n xs
  | _, .dct _ => false
  | _, .obj _ _ => false
  | _, .exc _ _ => false
  | _, .scr _ => false
def D.lvs : Nat → List D → Bool
  | _, [] => true
  | n, x :: xs => D.lv n x && D.lvs n xs
end
theorem D.lvs_all (n : Nat) : ∀ xs : List D, D.lvs n xs = xs.all (D.lv n)
  | [] => rfl
  | x :: xs => by rw [D.lvs, List.all_cons, D.lvs_all n xs]
/-- no address in it -/
def D.flat : D → Bool
  | .non => true
  | .bl _ => true
  | .int _ => true
  | .str _ => true
  | _ => false

/-- a slot: forgotten; a value; a list or dict that the def may still change; one that its caller lent -/
inductive Sl where
  | un
  | v (d : D)
  | o (d : D)
  | io (k : Nat) (d : D)
abbrev Env := List Sl
/-- an exception: its class by number, its field -/
structure Exn where
  k : Nat
  m : List D
inductive Res (α : Type) where
  | ok (a : α) (ρ : Env)
  | rz (x : Exn) (ρ : Env)
  | st
namespace Res
variable {α β : Type}
def bind (r : Res α) (f : α → Env → Res β) : Res β :=
  match r with
  | .ok a ρ => f a ρ
  | .rz x ρ => .rz x ρ
  | .st => .st
@[simp] theorem bind_ok (a : α) (ρ : Env) (f : α → Env → Res β) : bind (.ok a ρ) f = f a ρ := id rfl
@[simp] theorem bind_rz (x : Exn) (ρ : Env) (f : α → Env → Res β) : bind (.rz x ρ) f = .rz x ρ := id rfl
@[simp] theorem bind_st (f : α → Env → Res β) : bind .st f = .st := id rfl
end Res
abbrev Ev := Env → Res D
abbrev Eo := Env → Res Sl
abbrev Ea := Env → Res (List D)
inductive Fl where
  | nx
  | brk
  | cnt
  | ret (r : Sl)
abbrev Es := Env → Res Fl
/-- a def: the arguments' slots in, what it hands back and the lent slots out -/
abbrev Df := Env → Res Sl

def out (o : Option D) (ρ : Env) : Res D := match o with
  | some d => .ok d ρ
  | none => .st
@[simp] theorem out_some (d : D) (ρ : Env) : out (some d) ρ = .ok d ρ := id rfl
@[simp] theorem out_none (ρ : Env) : out none ρ = .st := id rfl
def outB (o : Option Bool) : Option D := o.map D.bl
@[simp] theorem outB_some (b : Bool) : outB (some b) = some (.bl b) := id rfl
@[simp] theorem outB_none : outB none = none := id rfl

/-! ### operators -/
def opAdd : D → D → Option D
  | .int i, .int j => some (.int (i + j))
  | .str s, .str t => if s.length + t.length ≤ line then some (.str (s ++ t)) else none
  | .lst xs, .lst ys => if xs.length + ys.length ≤ line then some (.lst (xs ++ ys)) else none
  | .tup xs, .tup ys => if xs.length + ys.length ≤ line then some (.tup (xs ++ ys)) else none
  | _, _ => none
def opIAdd : D → D → Option D
  | .int i, .int j => some (.int (i + j))
  | _, _ => none
def opSub : D → D → Option D
  | .int i, .int j => some (.int (i - j))
  | _, _ => none
def mulOk (i j : Int) : Bool := decide (i.natAbs < big) && decide (j.natAbs < big)
def opMul : D → D → Option D
  | .int i, .int j => if mulOk i j then some (.int (i * j)) else none
  | .lst xs, .int k => if -9223372036854775808 ≤ k ∧ k < 9223372036854775808 ∧ xs.length * k.toNat ≤ line then some (.lst (List.replicate k.toNat xs).flatten) else none
  | .str s, .int k => if 0 ≤ k ∧ k < 2147483648 ∧ s.length * k.toNat ≤ line then some (.str (List.replicate k.toNat s).flatten) else none
  | _, _ => none
/-- xs * n, of a list alone -/
def opRep : D → D → Option D
  | .lst xs, .int k => opMul (.lst xs) (.int k)
  | _, _ => none
def opMod : D → D → Option D
  | .int i, .int j => if 0 < j then some (.int (i % j)) else none
  | _, _ => none
def opDiv : D → D → Option D
  | .int i, .int j => if 0 < j ∧ j.natAbs < 2 ^ 8000 then some (.int (i / j)) else none
  | _, _ => none
def opPow : D → D → Option D
  | .int i, .int j => if 0 ≤ j ∧ ((j ≤ 1000000 ∧ i.natAbs < 18446744073709551616) ∨ (j ≤ 1000 ∧ i.natAbs < big)) then some (.int (i ^ j.toNat)) else none
  | _, _ => none
def opNeg : D → Option D
  | .int i => some (.int (-i))
  | _ => none
def opNot : D → Option D
  | .bl b => some (.bl (!b))
  | _ => none
def opEq (a b : D) : Option D := if D.lv 12 a && D.lv 12 b then some (.bl (D.eqv a b)) else none
def opNe (a b : D) : Option D := if D.lv 12 a && D.lv 12 b then some (.bl (!D.eqv a b)) else none
def opLt : D → D → Option D
  | .int i, .int j => some (.bl (decide (i < j)))
  | _, _ => none
def opLe : D → D → Option D
  | .int i, .int j => some (.bl (decide (i ≤ j)))
  | _, _ => none
def opGt : D → D → Option D
  | .int i, .int j => some (.bl (decide (j < i)))
  | _, _ => none
def opGe : D → D → Option D
  | .int i, .int j => some (.bl (decide (j ≤ i)))
  | _, _ => none
/-- is None -/
def opIsN : D → Option D
  | .non => some (.bl true)
  | .bl _ => some (.bl false)
  | .int _ => some (.bl false)
  | .str _ => some (.bl false)
  | .tup _ => some (.bl false)
  | .lst _ => some (.bl false)
  | .dct _ => some (.bl false)
  | .obj _ _ => some (.bl false)
  | .exc _ _ => some (.bl false)
  | .scr _ => some (.bl false)
def opNotN : D → Option D
  | .non => some (.bl false)
  | .bl _ => some (.bl true)
  | .int _ => some (.bl true)
  | .str _ => some (.bl true)
  | .tup _ => some (.bl true)
  | .lst _ => some (.bl true)
  | .dct _ => some (.bl true)
  | .obj _ _ => some (.bl true)
  | .exc _ _ => some (.bl true)
  | .scr _ => some (.bl true)
/-- is None: the right side is None -/
def opIs (a b : D) : Option D := match b with
  | .non => opIsN a
  | .bl y => match a with
    | .bl x => some (.bl (decide (x = y)))
    | _ => none
  | _ => none
def opIsNot (a b : D) : Option D := match b with
  | .non => opNotN a
  | .bl y => match a with
    | .bl x => some (.bl (!decide (x = y)))
    | _ => none
  | _ => none
/-- what a dict holds at a text -/
def look (k : List Nat) : List (List Nat × D) → Option D
  | [] => none
  | (x, d) :: r => if x = k then some d else look k r
def put (k : List Nat) (v : D) (es : List (List Nat × D)) : List (List Nat × D) :=
  if (look k es).isSome = true then es.map fun p => if p.1 = k then (p.1, v) else p else es ++ [(k, v)]
def opIn : D → D → Option D
  | .str [c], .str t => some (.bl (decide (c ∈ t)))
  | .str s, .dct es => some (.bl (look s es).isSome)
  | d, .lst xs => if D.flat d && xs.all D.flat then some (.bl (xs.any fun y => D.eqv y d)) else none
  | d, .tup xs => if D.flat d && xs.all D.flat then some (.bl (xs.any fun y => D.eqv y d)) else none
  | _, _ => none
def opNotIn (a b : D) : Option D := match opIn a b with
  | some (.bl c) => some (.bl (!c))
  | _ => none

/-! ### subscripts, slices -/
/-- the place that an index means -/
def ixN (n : Nat) (i : Int) : Option Nat := if 0 ≤ i then (if i < n then some i.toNat else none) else if -(n : Int) ≤ i then some (i + n).toNat else none
def at? {α : Type} (xs : List α) (i : Int) : Option α := (ixN xs.length i).bind fun j => xs[j]?
def opIx : D → D → Option D
  | .scr xs, .int i => at? xs i
  | .lst xs, .int i => at? xs i
  | .tup xs, .int i => at? xs i
  | .str s, .int i => if s.length ≤ line then (at? s i).map fun c => .str [c] else none
  | .dct es, .str k => look k es
  | _, _ => none
/-- a slice's bound, brought into 0 .. n; d where it is left out -/
def clip (n d : Nat) : Option Int → Nat
  | none => d
  | some i => if i < 0 then (i + n).toNat else min i.toNat n
def cut {α : Type} (xs : List α) (lo hi : Option Int) : List α := (xs.drop (clip xs.length 0 lo)).take (clip xs.length xs.length hi - clip xs.length 0 lo)
def opCut (d : D) (lo hi : Option Int) : Option D := match d with
  | .str s => if s.length ≤ line then some (.str (cut s lo hi)) else none
  | .lst xs => some (.lst (cut xs lo hi))
  | .scr xs => some (.lst (cut xs lo hi))
  | .tup xs => some (.tup (cut xs lo hi))
  | _ => none
def asInt : D → Option Int
  | .int i => some i
  | _ => none

/-! ### built-ins -/
def opLen : D → Option D
  | .str s => if s.length ≤ line then some (.int s.length) else none
  | .lst xs => some (.int xs.length)
  | .scr xs => some (.int xs.length)
  | .tup xs => some (.int xs.length)
  | _ => none
/-- all intsD -/
def intsD : List D → Option (List Int)
  | [] => some []
  | .int i :: r => (intsD r).map (i :: ·)
  | _ :: _ => none
def strsD : List D → Option (List (List Nat))
  | [] => some []
  | .str s :: r => (strsD r).map (s :: ·)
  | _ :: _ => none
def opSum : D → Option D
  | .lst xs => (intsD xs).map fun ns => .int ns.sum
  | _ => none
def opMaxL : D → Option D
  | .lst xs => ((intsD xs).bind (·.max?)).map .int
  | _ => none
def opMinL : D → Option D
  | .lst xs => ((intsD xs).bind (·.min?)).map .int
  | _ => none
def opMax2 : D → D → Option D
  | .int i, .int j => some (.int (if j > i then j else i))
  | _, _ => none
def opMin2 : D → D → Option D
  | .int i, .int j => some (.int (if j < i then j else i))
  | _, _ => none
def opAbs : D → Option D
  | .int i => some (.int (if i < 0 then -i else i))
  | _ => none
def opList : D → Option D
  | .scr xs => some (.lst xs)
  | .lst xs => some (.lst xs)
  | .tup xs => some (.lst xs)
  | _ => none
def opTuple : D → Option D
  | .lst xs => some (.tup xs)
  | .tup xs => some (.tup xs)
  | _ => none
/-- what isinstance(x, T) says: T by number: 0 str, 1 int, 2 bool, 3 list, 4 tuple -/
def opIsI (t : Nat) : D → Option D
  | .non => some (.bl false)
  | .bl _ => some (.bl (t == 1 || t == 2))
  | .int _ => some (.bl (t == 1))
  | .str _ => some (.bl (t == 0))
  | .lst _ => some (.bl (t == 3))
  | .tup _ => some (.bl (t == 4))
  | .dct _ => some (.bl false)
  | _ => none
def joinL (s : List Nat) : List (List Nat) → List Nat
  | [] => []
  | [x] => x
  | x :: y :: r => x ++ s ++ joinL s (y :: r)
def opJoin : D → D → Option D
  | .str s, .lst xs => (strsD xs).bind fun ys => if (ys.map List.length).sum + ys.length * s.length ≤ line then some (.str (joinL s ys)) else none
  | .str s, .tup xs => (strsD xs).bind fun ys => if (ys.map List.length).sum + ys.length * s.length ≤ line then some (.str (joinL s ys)) else none
  | _, _ => none
def opIndex : D → D → Option D
  | .str s, .str [c] => if s.length ≤ line ∧ c ∈ s then some (.int (s.idxOf c)) else none
  | _, _ => none
def opCount : D → D → Option D
  | .str s, .str [c] => some (.int (s.count c))
  | _, _ => none
def opStarts : D → D → Option D
  | .str s, .str t => some (.bl (t.isPrefixOf s))
  | _, _ => none

/-- text[::-1] -/
def opRevS : D → Option D
  | .str s => if s.length ≤ line then some (.str s.reverse) else none
  | _ => none

/-- list[::-1] -/
def opRevL : D → Option D
  | .lst xs => some (.lst xs.reverse)
  | .scr xs => some (.lst xs.reverse)
  | _ => none

/-! ### expressions -/
def eC (d : D) : Ev := fun ρ => .ok d ρ
def eV (i : Nat) : Ev := fun ρ => match ρ[i]? with
  | some (.v d) => .ok d ρ
  | _ => .st
/-- a name whose list stays the def's own: looked at by len, sum, an index .. -/
def ePk (i : Nat) : Ev := fun ρ => match ρ[i]? with
  | some (.v d) => .ok d ρ
  | some (.o d) => .ok d ρ
  | some (.io _ d) => .ok d ρ
  | _ => .st
def e1 (g : D → Option D) (f : Ev) : Ev := fun ρ => (f ρ).bind fun a ρ => out (g a) ρ
def e2 (g : D → D → Option D) (f h : Ev) : Ev := fun ρ => (f ρ).bind fun a ρ => (h ρ).bind fun b ρ => out (g a b) ρ
def e3 (g : D → D → D → Option D) (f h l : Ev) : Ev := fun ρ => (f ρ).bind fun a ρ => (h ρ).bind fun b ρ => (l ρ).bind fun c ρ => out (g a b c) ρ
/-- a method of a text -/
def eM (g : D → D → Option D) (f h : Ev) : Ev := fun ρ => (f ρ).bind fun a ρ => match a with
  | .str s => (h ρ).bind fun b ρ => out (g (.str s) b) ρ
  | _ => .st
def eAnd (f h : Ev) : Ev := fun ρ => (f ρ).bind fun a ρ => match a with
  | .bl true => h ρ
  | .bl false => .ok (.bl false) ρ
  | _ => .st
def eOr (f h : Ev) : Ev := fun ρ => (f ρ).bind fun a ρ => match a with
  | .bl true => .ok (.bl true) ρ
  | .bl false => h ρ
  | _ => .st
def eIf (c f h : Ev) : Ev := fun ρ => (c ρ).bind fun a ρ => match a with
  | .bl true => f ρ
  | .bl false => h ρ
  | _ => .st
/-- a op1 b op2 c -/
def eChain (g1 g2 : D → D → Option D) (f h l : Ev) : Ev := fun ρ => (f ρ).bind fun a ρ => (h ρ).bind fun b ρ => (out (g1 a b) ρ).bind fun z ρ => match z with
  | .bl true => (l ρ).bind fun c ρ => out (g2 b c) ρ
  | .bl false => .ok (.bl false) ρ
  | _ => .st
/-- a slice's part -/
def pt (f : Option Ev) (ρ : Env) : Res (Option Int) := match f with
  | none => .ok none ρ
  | some f => (f ρ).bind fun a ρ => match a with
    | .int i => .ok (some i) ρ
    | _ => .st
def eCut (f : Ev) (lo hi : Option Ev) : Ev := fun ρ => (f ρ).bind fun a ρ => (pt lo ρ).bind fun l ρ => (pt hi ρ).bind fun h ρ => out (opCut a l h) ρ
def aNil : Ea := fun ρ => .ok [] ρ
def aCons (f : Ev) (r : Ea) : Ea := fun ρ => (f ρ).bind fun a ρ => (r ρ).bind fun as ρ => .ok (a :: as) ρ
/-- (a, b, ..), [a, b, ..] -/
def eTup (r : Ea) : Ev := fun ρ => (r ρ).bind fun as ρ => if as.length ≤ line then .ok (.tup as) ρ else .st
def eLst (r : Ea) : Ev := fun ρ => (r ρ).bind fun as ρ => if as.length ≤ line then .ok (.lst as) ρ else .st
/-- what may be the def's own: as a value -/
def val (f : Eo) : Ev := fun ρ => (f ρ).bind fun r ρ => match r with
  | .v d => .ok d ρ
  | .o d => .ok d ρ
  | _ => .st
/-- a fresh list that the def may go on to change -/
def own (f : Ev) : Eo := fun ρ => (f ρ).bind fun d ρ => .ok (.o d) ρ
def ov (f : Ev) : Eo := fun ρ => (f ρ).bind fun d ρ => .ok (.v d) ρ

/-! ### environments -/
def wipeE (ρ : Env) : List Nat → Env
  | [] => ρ
  | i :: r => (wipeE ρ r).set i .un
/-- an own list given up: it is a value from here on -/
def frz1 (ρ : Env) (i : Nat) : Env := match ρ[i]? with
  | some (.o d) => ρ.set i (.v d)
  | _ => ρ
def Sl.frz : Sl → Sl
  | .o d => .v d
  | .io _ d => .v d
  | s => s
/-- f looks at all slots as at values, and hands on nothing of them -/
def eThaw (f : Ev) : Ev := fun ρ => match f (ρ.map Sl.frz) with
  | .ok d _ => if d.flat then .ok d ρ else .st
  | _ => .st
def eFrz (i : Nat) (f : Ev) : Ev := fun ρ => f (frz1 ρ i)
def oFrz (i : Nat) (f : Eo) : Eo := fun ρ => f (frz1 ρ i)
/-- xs + ys, of lists alone; a list's slice -/
def opCat : D → D → Option D
  | .lst xs, .lst ys => opAdd (.lst xs) (.lst ys)
  | _, _ => none
def opCutL (d : D) (lo hi : Option Int) : Option D := match d with
  | .lst xs => some (.lst (cut xs lo hi))
  | .scr xs => some (.lst (cut xs lo hi))
  | _ => none
def eCutL (f : Ev) (lo hi : Option Ev) : Ev := fun ρ => (f ρ).bind fun a ρ => (pt lo ρ).bind fun l ρ => (pt hi ρ).bind fun h ρ => out (opCutL a l h) ρ
def isO (ρ : Env) (i : Nat) : Bool := match ρ[i]? with
  | some (.o (.lst _)) => true
  | some (.io _ (.lst _)) => true
  | _ => false
def isD (ρ : Env) (i : Nat) : Bool := match ρ[i]? with
  | some (.o (.dct _)) => true
  | some (.io _ (.dct _)) => true
  | _ => false
/-- an own list or dict as it stands -/
def held (ρ : Env) (i : Nat) : Option D := match ρ[i]? with
  | some (.o d) => some d
  | some (.io _ d) => some d
  | _ => none
/-- x[a], x an own list or dict -/
def eIxO (i : Nat) (f : Ev) : Ev := fun ρ => if isO ρ i then (f ρ).bind fun k ρ => match held ρ i with
    | some (.lst xs) => out (opIx (.lst xs) k) ρ
    | _ => .st
  else if isD ρ i then (f ρ).bind fun k ρ => match held ρ i with
    | some (.dct es) => out (opIx (.dct es) k) ρ
    | _ => .st
  else .st

/-! ### calls -/
def eCall (s : Df) (as : Ea) : Eo := fun ρ => (as ρ).bind fun ds ρ => match s (ds.map .v) with
  | .ok r _ => .ok r ρ
  | .rz x _ => .rz x ρ
  | .st => .st
/-- the first argument is an own list, lent -/
def eCallD (s : Df) (i : Nat) (as : Ea) : Eo := fun ρ => if (held ρ i).isSome = false then .st else (as ρ).bind fun ds ρ => match ρ[i]? with
  | some (.o d) => match s (.io 0 d :: ds.map .v) with
    | .ok r (.io _ e :: _) => .ok r (ρ.set i (.o e))
    | .rz x (.io _ e :: _) => .rz x (ρ.set i (.o e))
    | _ => .st
  | some (.io k d) => match s (.io 0 d :: ds.map .v) with
    | .ok r (.io _ e :: _) => .ok r (ρ.set i (.io k e))
    | .rz x (.io _ e :: _) => .rz x (ρ.set i (.io k e))
    | _ => .st
  | _ => .st
/-- behind the body: what the lent slots hold -/
def lent : Env → Env → Env
  | [], _ => []
  | .v d :: as, ρ => .v d :: lent as ρ.tail
  | .io k _ :: as, ρ => (match ρ.head? with
    | some (.io j e) => if k = j then .io k e else .un
    | _ => .un) :: lent as ρ.tail
  | .o _ :: as, ρ => .un :: lent as ρ.tail
  | .un :: as, ρ => .un :: lent as ρ.tail
def run (n k : Nat) (g : Es) : Df := fun as => if as.length = n then (match g (as ++ List.replicate k .un) with
    | .ok (.ret r) ρ => .ok r (lent as ρ)
    | .ok .nx ρ => .ok (.v .non) (lent as ρ)
    | .ok _ _ => .st
    | .rz x ρ => .rz x (lent as ρ)
    | .st => .st) else .st

/-! ### what is walked -/
abbrev Ei := Env → Res (List D)
def itD : D → Option (List D)
  | .scr xs => some xs
  | .lst xs => some xs
  | .tup xs => some xs
  | .str s => some (s.map fun c => .str [c])
  | _ => none
def outL (o : Option (List D)) (ρ : Env) : Res (List D) := match o with
  | some d => .ok d ρ
  | none => .st
@[simp] theorem outL_some (d : List D) (ρ : Env) : outL (some d) ρ = .ok d ρ := id rfl
@[simp] theorem outL_none (ρ : Env) : outL none ρ = .st := id rfl
def iE (f : Ev) : Ei := fun ρ => (f ρ).bind fun d ρ => outL (itD d) ρ
def rng (a b : Int) : List D := (List.range (b - a).toNat).map fun (i : Nat) => D.int (a + (i : Int))
/-- fits a range -/
def inR (b : Int) : Bool := decide (-4611686018427387904 ≤ b) && decide (b < 4611686018427387904)
def iR1 (f : Ev) : Ei := fun ρ => (f ρ).bind fun d ρ => match d with
  | .int b => if inR b then .ok (rng 0 b) ρ else .st
  | _ => .st
def iR2 (f h : Ev) : Ei := fun ρ => (f ρ).bind fun a ρ => (h ρ).bind fun b ρ => match a, b with
  | .int a, .int b => if inR a && inR b then .ok (rng a b) ρ else .st
  | _, _ => .st
def iZip (f h : Ev) : Ei := fun ρ => (f ρ).bind fun a ρ => (h ρ).bind fun b ρ => match a, b with
  | .lst xs, .lst ys => .ok (List.zipWith (fun x y => .tup [x, y]) xs ys) ρ
  | _, _ => .st
def iRev (f : Ev) : Ei := fun ρ => (f ρ).bind fun a ρ => match a with
  | .lst xs => .ok xs.reverse ρ
  | _ => .st
def enumL : Nat → List D → List D
  | _, [] => []
  | n, x :: r => .tup [.int n, x] :: enumL (n + 1) r
def iEnum (f : Ev) : Ei := fun ρ => (f ρ).bind fun a ρ => match a with
  | .lst xs => .ok (enumL 0 xs) ρ
  | _ => .st
/-- a target: a name, or names in brackets -/
inductive Tg where
  | n (i : Nat)
  | t (is : List Nat)
def setAll : List Nat → List D → Env → Option Env
  | [], [], ρ => some ρ
  | i :: is, x :: xs, ρ => setAll is xs (ρ.set i (.v x))
  | _, _, _ => none
def Tg.put (g : Tg) (x : D) (ρ : Env) : Option Env := match g with
  | .n i => some (ρ.set i (.v x))
  | .t is => match x with
    | .tup xs => setAll is xs ρ
    | .lst xs => setAll is xs ρ
    | _ => none

/-! ### comprehensions -/
def compL (g : Tg) (ws : List Nat) (c : Option Ev) (f : Ev) : List D → List D → Env → Res (List D)
  | [], acc, ρ => .ok acc ρ
  | x :: r, acc, ρ => match g.put x (wipeE ρ ws) with
    | none => .st
    | some ρ1 => match c with
      | none => (f ρ1).bind fun d ρ2 => if acc.length < line then compL g ws c f r (acc ++ [d]) ρ2 else .st
      | some c' => (c' ρ1).bind fun b ρ2 => match b with
        | .bl true => (f ρ2).bind fun d ρ3 => if acc.length < line then compL g ws c f r (acc ++ [d]) ρ3 else .st
        | .bl false => compL g ws c f r acc ρ2
        | _ => .st
/-- the block's own names stand again as they did -/
def unwipe (ρ0 ρ : Env) : List Nat → Env
  | [] => ρ
  | i :: r => (unwipe ρ0 ρ r).set i (match ρ0[i]? with
    | some (.v d) => .v d
    | _ => .un)
/-- ws: the block's own names; no exception may leave it -/
def eComp (g : Tg) (ws : List Nat) (it : Ei) (c : Option Ev) (f : Ev) : Ev := fun ρ => (it ρ).bind fun xs ρ1 => match compL g ws c f xs [] ρ1 with
  | .ok ds ρ2 => .ok (.lst ds) (unwipe ρ1 ρ2 ws)
  | _ => .st

/-- .. kept as the def's own -/
def oComp (g : Tg) (ws : List Nat) (it : Ei) (cnd : Option Ev) (f : Ev) : Eo := NV.own (eComp g ws it cnd f)

/-! ### statements -/
def sNx : Es := fun ρ => .ok .nx ρ
def sSq (a b : Es) : Es := fun ρ => match a ρ with
  | .ok .nx ρ => b ρ
  | r => r
def sSet (i : Nat) (f : Ev) : Es := fun ρ => (f ρ).bind fun d ρ => .ok .nx (ρ.set i (.v d))
/-- a fresh list kept as the def's own -/
def sOwn (i : Nat) (f : Eo) : Es := fun ρ => (f ρ).bind fun r ρ => .ok .nx (ρ.set i r)
def sTg (g : Tg) (f : Ev) : Es := fun ρ => (f ρ).bind fun d ρ => match g.put d ρ with
  | some ρ => .ok .nx ρ
  | none => .st
/-- x op= e -/
def sAug (i : Nat) (g : D → D → Option D) (f : Ev) : Es := fun ρ => match ρ[i]? with
  | some (.v a) => (f ρ).bind fun b ρ => (out (g a b) ρ).bind fun d ρ => .ok .nx (ρ.set i (.v d))
  | _ => .st
def sPar (i j : Nat) (f : Ea) : Es := fun ρ => (f ρ).bind fun ds ρ => match ds with
  | [a, b] => .ok .nx ((ρ.set i (.v a)).set j (.v b))
  | _ => .st
def eDct0 : Ev := fun ρ => .ok (.dct []) ρ
def sIf (c : Ev) (a b : Es) : Es := fun ρ => (c ρ).bind fun d ρ => match d with
  | .bl true => a ρ
  | .bl false => b ρ
  | _ => .st
def sRet (f : Ev) : Es := fun ρ => (f ρ).bind fun d ρ => .ok (.ret (.v d)) ρ
def sRetO (f : Eo) : Es := fun ρ => (f ρ).bind fun r ρ => .ok (.ret r) ρ
/-- return x, x the def's own list -/
def sRetN (i : Nat) : Es := fun ρ => match ρ[i]? with
  | some (.v d) => .ok (.ret (.v d)) ρ
  | some (.o d) => .ok (.ret (.o d)) (ρ.set i .un)
  | _ => .st
def sBrk : Es := fun ρ => .ok .brk ρ
def sCnt : Es := fun ρ => .ok .cnt ρ
def sDrop (f : Ev) : Es := fun ρ => (f ρ).bind fun _ ρ => .ok .nx ρ
def sSt : Es := fun _ => .st
/-- what an own list or dict becomes -/
def chg (i : Nat) (h : D → Option D) (ρ : Env) : Res Fl := match ρ[i]? with
  | some (.o d) => match h d with
    | some d' => .ok .nx (ρ.set i (.o d'))
    | none => .st
  | some (.io k d) => match h d with
    | some d' => .ok .nx (ρ.set i (.io k d'))
    | none => .st
  | _ => .st
def hAppend (x : D) : D → Option D
  | .lst xs => if xs.length < line then some (.lst (xs ++ [x])) else none
  | _ => none
def hExtend (x : D) : D → Option D
  | .lst xs => match x with
    | .lst ys => if xs.length + ys.length ≤ line then some (.lst (xs ++ ys)) else none
    | _ => none
  | _ => none
def hSetL (i x : D) : D → Option D
  | .lst xs => match i with
    | .int i => (ixN xs.length i).map fun j => .lst (xs.set j x)
    | _ => none
  | _ => none
def hSetD (i x : D) : D → Option D
  | .dct es => match i with
    | .str k => if es.length < line then some (.dct (put k x es)) else none
    | _ => none
  | _ => none
def hClear : D → Option D
  | .lst _ => some (.lst [])
  | _ => none
def hRev : D → Option D
  | .lst xs => some (.lst xs.reverse)
  | _ => none
def sAppend (i : Nat) (f : Ev) : Es := fun ρ => if isO ρ i then (f ρ).bind fun d ρ => chg i (hAppend d) ρ else .st
def sExtend (i : Nat) (f : Ev) : Es := fun ρ => if isO ρ i then (f ρ).bind fun d ρ => chg i (hExtend d) ρ else .st
/-- xs[a] = f: f first -/
def sSetIx (i : Nat) (a f : Ev) : Es := fun ρ => if isO ρ i then (f ρ).bind fun d ρ => (a ρ).bind fun k ρ => chg i (hSetL k d) ρ
  else if isD ρ i then (f ρ).bind fun d ρ => (a ρ).bind fun k ρ => chg i (hSetD k d) ρ else .st
/-- xs[a] op= f, xs a list -/
def sAugIx (i : Nat) (a : Ev) (g : D → D → Option D) (f : Ev) : Es := fun ρ => if isO ρ i = false then .st else (a ρ).bind fun k ρ => match held ρ i with
  | some (.lst xs) => match opIx (.lst xs) k with
    | some old => (f ρ).bind fun b ρ => (out (g old b) ρ).bind fun d ρ => chg i (hSetL k d) ρ
    | none => .st
  | _ => .st
def sClear (i : Nat) : Es := fun ρ => chg i hClear ρ
def sRevers (i : Nat) : Es := fun ρ => chg i hRev ρ
/-- xs.pop(), as a value -/
def ePop (i : Nat) : Ev := fun ρ => match ρ[i]? with
  | some (.o (.lst xs)) => match xs.getLast? with
    | some d => .ok d (ρ.set i (.o (.lst xs.dropLast)))
    | none => .st
  | some (.io k (.lst xs)) => match xs.getLast? with
    | some d => .ok d (ρ.set i (.io k (.lst xs.dropLast)))
    | none => .st
  | _ => .st

/-! ### loops; ks: the slots that no later turn asks -/
def forL (g : Tg) (ks : List Nat) (b : Es) : List D → Es
  | [], ρ => .ok .nx ρ
  | x :: r, ρ => match g.put x ρ with
    | none => .st
    | some ρ1 => match b ρ1 with
      | .ok .nx ρ2 => forL g ks b r (wipeE ρ2 ks)
      | .ok .cnt ρ2 => forL g ks b r (wipeE ρ2 ks)
      | .ok .brk ρ2 => .ok .nx (wipeE ρ2 ks)
      | r' => r'
def sFor (g : Tg) (ks : List Nat) (it : Ei) (b : Es) : Es := fun ρ => (it ρ).bind fun xs ρ => forL g ks b xs (wipeE ρ ks)
def whileL (ks : List Nat) (c : Ev) (b : Es) : Nat → Es
  | 0, _ => .st
  | n + 1, ρ => (c ρ).bind fun d ρ1 => match d with
    | .bl true => match b ρ1 with
      | .ok .nx ρ2 => whileL ks c b n (wipeE ρ2 ks)
      | .ok .cnt ρ2 => whileL ks c b n (wipeE ρ2 ks)
      | .ok .brk ρ2 => .ok .nx (wipeE ρ2 ks)
      | r' => r'
    | .bl false => .ok .nx ρ1
    | _ => .st
def fuel : Nat := 1000000
def sWhile (ks : List Nat) (c : Ev) (b : Es) : Es := fun ρ => whileL ks c b fuel (wipeE ρ ks)
end NV

set_option Elab.async false
set_option linter.all false
/-! Sem2: more of what expressions compute. -/
namespace NV
/-- what enumerate and reversed walk: a list or a text -/
def itL : D → Option (List D)
  | .lst xs => some xs
  | .str s => some (s.map fun c => .str [c])
  | _ => none
def iEnum2 (f : Ev) : Ei := fun ρ => (f ρ).bind fun a ρ => match itL a with
  | some xs => .ok (enumL 0 xs) ρ
  | none => .st
/-- "".join(reversed(a text)) -/
def opJRev : D → Option D
  | .str s => if 1 ≤ s.length ∧ s.length ≤ line then some (.str s.reverse) else none
  | _ => none
/-- sorted(whole numbers) -/
def sortI (ns : List Int) : List Int := ns.mergeSort fun a b => decide (a ≤ b)
def opSorted : D → Option D
  | .lst xs => (intsD xs).map fun ns => .lst ((sortI ns).map .int)
  | _ => none
def itR : D → Option (List D)
  | .lst xs => some xs.reverse
  | .str s => if s.length ≤ line then some (s.map fun c => .str [c]).reverse else none
  | _ => none
def iRev2 (f : Ev) : Ei := fun ρ => (f ρ).bind fun a ρ => match itR a with
  | some xs => .ok xs ρ
  | none => .st
/-- list(x), x the def's own: x stays it -/
def eListO (i : Nat) : Ev := fun ρ => match held ρ i with
  | some (.lst xs) => .ok (.lst xs) ρ
  | _ => .st
end NV
namespace NV
/-- int(x) of a number or a truth -/
def opInt : D → Option D
  | .int i => some (.int i)
  | .bl b => some (.int (if b then 1 else 0))
  | _ => none
end NV
namespace NV
/-- range(a, b), of any size -/
def iR2w (f h : Ev) : Ei := fun ρ => (f ρ).bind fun a ρ => (h ρ).bind fun b ρ => match a, b with
  | .int a, .int b => .ok (rng a b) ρ
  | _, _ => .st
end NV
namespace NV
/-! a list whose lists are changed behind the tests, and then forgotten -/
def thinD : D → Bool
  | .non => true
  | .bl _ => true
  | .int _ => true
  | .str _ => true
  | .tup xs => xs.all D.flat
  | _ => false
def thinS : Sl → Sl
  | .v d => if thinD d = true then .v d else .un
  | _ => .un
def noOwnS : Sl → Bool
  | .un => true
  | .v _ => true
  | _ => false
def sTree (i : Nat) (f : Ev) (B : Es) : Es := fun ρ => if ρ.all noOwnS = true ∧ i < ρ.length then (match f (ρ.map thinS) with
    | .ok d _ => B (ρ.set i (.v d))
    | _ => .st) else .st
def sTest (i : Nat) (f : Ev) (A B : Es) : Es := fun ρ => match f ρ with
  | .ok (.bl true) _ => (match A (ρ.set i .un) with
    | .ok (.ret r) ρ' => .ok (.ret r) ρ'
    | _ => .st)
  | .ok (.bl false) _ => B ρ
  | _ => .st
/-- x[0].append(f1), x[1][0].append(f2), x[1].append(f3), where x is two lists, the later one's first is one, and both begin with numbers -/
def sMut3 (i : Nat) (f1 f2 f3 : Ev) (B : Es) : Es := fun ρ => match ρ[i]? with
  | some (.v (.lst [.lst (.int _ :: as), .lst (.lst (.int _ :: bs) :: cs)])) => if as.length + 3 < line ∧ bs.length + 3 < line ∧ cs.length + 3 < line then
      (match f1 (ρ.set i .un), f2 (ρ.set i .un), f3 (ρ.set i .un) with
      | .ok _ _, .ok _ _, .ok _ _ => B (ρ.set i .un)
      | _, _, _ => .st) else .st
  | _ => .st
/-- x[n].append(f), where x is a tuple told and its n-th is a list; then x is forgotten -/
def tupAt (d : D) (n : Int) : Bool := match d with
  | .tup ds => (match at? ds n with
    | some (.lst es) => decide (es.length + 1 < line)
    | _ => false)
  | _ => false
def sMutT (i : Nat) (n : Int) (f : Ev) (B : Es) : Es := fun ρ => match ρ[i]? with
  | some (.v d) => if tupAt d n = true then (match f (ρ.set i .un) with
      | .ok _ _ => B (ρ.set i .un)
      | _ => .st) else .st
  | _ => .st
/-- if g: x[n].append(f) -/
def sMutIf (i : Nat) (g : Ev) (n : Int) (f : Ev) (B : Es) : Es := fun ρ => match g ρ with
  | .ok (.bl true) _ => sMutT i n f B ρ
  | .ok (.bl false) _ => B (ρ.set i .un)
  | _ => .st
end NV
namespace NV
/-! min(xs, default=None) of pairs of numbers -/
def pairsD : List D → Option (List (Int × Int))
  | [] => some []
  | .tup [.int a, .int b] :: r => (pairsD r).map ((a, b) :: ·)
  | _ :: _ => none
def ltP (p q : Int × Int) : Bool := if p.1 = q.1 then decide (p.2 < q.2) else decide (p.1 < q.1)
def minP (x : Int × Int) (xs : List (Int × Int)) : Int × Int := xs.foldl (fun a y => if ltP y a = true then y else a) x
def opMinN : D → Option D
  | .lst xs => match pairsD xs with
    | some [] => some .non
    | some (p :: ps) => some (.tup [.int (minP p ps).1, .int (minP p ps).2])
    | none => none
  | _ => none
end NV
namespace NV
/-! exceptions -/
/-- raise C(..), C the k-th own class -/
def sRaise (k : Nat) (f : Ea) : Es := fun ρ => (f ρ).bind fun ds ρ => .rz ⟨k, ds⟩ ρ
/-- try: .. except WordError as i: j = i -/
def sTryK (i j : Nat) (b : Es) : Es := fun ρ => match b ρ with
  | .rz x ρ' => .ok .nx (((ρ'.set i .un).set j (.v (.exc x.k x.m))).set i .un)
  | r => r
end NV
namespace NV
/-- is the k-th own class under the n-th (8: ValueError) -/
def subX (k n : Nat) : Bool := n == k || n == 0 || n == 8
def opIsX (ks : List Nat) (n : Nat) : D → Option D
  | .exc k _ => if k ∈ ks then some (.bl (subX k n)) else none
  | _ => none
def opIsX2 (ks : List Nat) (n m : Nat) : D → Option D
  | .exc k _ => if k ∈ ks then some (.bl (subX k n || subX k m)) else none
  | _ => none
def opMost (ks : List Nat) : D → Option D
  | .exc k [d] => if k ∈ ks then some d else none
  | _ => none
end NV

set_option Elab.async false
set_option linter.all false
set_option maxRecDepth 100000
/-! Sem3: text.split(sign), list.insert. -/
namespace NV
/-- the pieces between the signs c -/
def splD (c : Nat) : List Nat → List Nat → List (List Nat)
  | acc, [] => [acc]
  | acc, x :: r => if x = c then acc :: splD c [] r else splD c (acc ++ [x]) r
def opSplit : D → D → Option D
  | .str s, .str [c] => if s.length + 2 ≤ line ∧ c < 256 then some (.lst ((splD c [] s).map D.str)) else none
  | _, _ => none
def hInsert (k : Int) (x : D) : D → Option D
  | .lst xs => if xs.length < line ∧ 0 ≤ k ∧ k < 2 ^ 63 then some (.lst (xs.take k.toNat ++ [x] ++ xs.drop k.toNat)) else none
  | _ => none
/-- xs.insert(a, f) -/
def sInsert (i : Nat) (a f : Ev) : Es := fun ρ => if isO ρ i then (a ρ).bind fun k ρ => (f ρ).bind fun d ρ => match k with
  | .int j => chg i (hInsert j d) ρ
  | _ => .st else .st
/-- from here on the own dict is looked at alone -/
def lck1 (ρ : Env) (i : Nat) : Env := match ρ[i]? with
  | some (.o (.dct es)) => ρ.set i (.v (.obj 0 es))
  | _ => ρ
def eLck (i : Nat) (f : Ev) : Ev := fun ρ => f (lck1 ρ i)
/-- the keys of a locked dict -/
def iKeysL (f : Ev) : Ei := fun ρ => (f ρ).bind fun a ρ => match a with
  | .obj 0 es => .ok (es.map fun p => .str p.1) ρ
  | _ => .st
def opInL : D → D → Option D
  | .str s, .obj 0 es => some (.bl (look s es).isSome)
  | _, _ => none
def opLenL : D → Option D
  | .obj 0 es => some (.int es.length)
  | _ => none
def ltS : List Nat → List Nat → Bool := fun s t => decide (s < t)
def opGeS : D → D → Option D
  | .str s, .str t => some (.bl (!ltS s t))
  | _, _ => none
/-- try: b, except TooGreat: the name at j is None -/
def sTryN (j : Nat) (b : Es) : Es := fun ρ => match b ρ with
  | .rz _ ρ' => .ok .nx (ρ'.set j (.v .non))
  | r => r
/-- an own exception made, not raised: its field is what f says / None -/
def eMk (k : Nat) (f : Ev) : Ev := fun ρ => (f ρ).bind fun a ρ => .ok (.exc k [a]) ρ
def eMk0 (k : Nat) : Ev := fun ρ => .ok (.exc k [.non]) ρ
/-- pairs of a text and a whole number, in order -/
def pairsS : List D → Option (List (List Nat × Int))
  | [] => some []
  | .tup [.str s, .int i] :: r => (pairsS r).map ((s, i) :: ·)
  | _ :: _ => none
def pltS (p q : List Nat × Int) : Bool := if p.1 = q.1 then decide (p.2 < q.2) else decide (p.1 < q.1)
def sortPS (ps : List (List Nat × Int)) : List (List Nat × Int) := ps.mergeSort fun a b => !pltS b a
def pDS (p : List Nat × Int) : D := .tup [.str p.1, .int p.2]
def opSortP : D → Option D
  | .lst xs => (pairsS xs).map fun ps => .lst ((sortPS ps).map pDS)
  | _ => none
/-- {f: h} -/
def eDct1 (f h : Ev) : Ev := fun ρ => (f ρ).bind fun a ρ => (h ρ).bind fun b ρ => match a with
  | .str k => .ok (.dct [(k, b)]) ρ
  | _ => .st
/-- zip of two lists or of two tuples -/
def iZipT (f h : Ev) : Ei := fun ρ => (f ρ).bind fun a ρ => (h ρ).bind fun b ρ => match a, b with
  | .lst xs, .lst ys => .ok (List.zipWith (fun x y => .tup [x, y]) xs ys) ρ
  | .tup xs, .tup ys => .ok (List.zipWith (fun x y => .tup [x, y]) xs ys) ρ
  | _, _ => .st
end NV
namespace NV
/-! sorted(set(x)) -/
def insO {α : Type} (lt : α → α → Bool) (x : α) : List α → List α
  | [] => [x]
  | y :: r => if lt x y = true then x :: y :: r else if lt y x = true then y :: insO lt x r else y :: r
def setO {α : Type} (lt : α → α → Bool) (xs : List α) : List α := xs.foldr (insO lt) []
def ltI (a b : Int) : Bool := decide (a < b)
def opSortSet : D → Option D
  | .lst xs => match intsD xs with
    | some ns => if ns.length < 64 then some (.lst ((setO ltI ns).map .int)) else none
    | none => match strsD xs with
      | some ss => if ss.length ≤ 4000 then some (.lst ((setO ltS ss).map .str)) else none
      | none => none
  | .str s => if s.length ≤ 4000 then some (.lst ((setO ltS (s.map fun c => [c])).map .str)) else none
  | _ => none
end NV
namespace NV
/-- text.replace(one sign, another) -/
def opRepl (x : List Nat) (b c : D) : Option D := match b, c with
  | .str [y], .str [z] => if x.length ≤ 1000000 ∧ y ≠ z then some (.str (x.map fun k => if k = y then z else k)) else none
  | _, _ => none
/-- f.replace(l[h], l[h2]) -/
def eRepl (l : List Nat) (f h h2 : Ev) : Ev := fun ρ => (f ρ).bind fun a ρ => match a with
  | .str x => (h ρ).bind fun i ρ => match opIx (.str l) i with
    | some y => (h2 ρ).bind fun j ρ => out ((opIx (.str l) j).bind fun z => opRepl x y z) ρ
    | none => .st
  | _ => .st
end NV
namespace NV
/-- text.strip(signs), where all is taken off -/
def opStrip : D → D → Option D
  | .str s, .str cs => if s.length ≤ line ∧ s.all (fun c => decide (c ∈ cs)) = true then some (.str []) else none
  | _, _ => none
def occ (s t : List Nat) (i : Nat) : Bool := decide (i + t.length ≤ s.length) && ((s.drop i).take t.length == t)
def findL (s t : List Nat) : Int := match (List.range (s.length + 1)).find? (occ s t) with
  | some i => (i : Int)
  | none => -1
def opFind : D → D → Option D
  | .str s, .str t => some (.int (findL s t))
  | _, _ => none
end NV
namespace NV
theorem tri (s t : List Nat) : s < t ∨ s = t ∨ t < s := by
  by_cases h1 : s < t
  · exact .inl h1
  · by_cases h2 : t < s
    · exact .inr (.inr h2)
    · exact .inr (.inl (List.le_antisymm (List.not_lt.mp h2) (List.not_lt.mp h1)))
/-- a strict order -/
structure StO {α : Type} (lt : α → α → Bool) : Prop where
  irr : ∀ a, lt a a = false
  tr : ∀ a b c, lt a b = true → lt b c = true → lt a c = true
  tot : ∀ a b, lt a b = false → lt b a = false → a = b
theorem sto_I : StO ltI := ⟨fun a => decide_eq_false (Int.lt_irrefl a), fun a b c h1 h2 => by
  unfold ltI at *
  rw [decide_eq_true_eq] at *
  omega, fun a b h1 h2 => by
  unfold ltI at *
  rw [decide_eq_false_iff_not] at *
  omega⟩
theorem sto_S : StO ltS := ⟨fun a => decide_eq_false (List.lt_irrefl a), fun a b c h1 h2 => by
  unfold ltS at *
  rw [decide_eq_true_eq] at *
  exact List.lt_trans h1 h2, fun a b h1 h2 => by
  unfold ltS at *
  rw [decide_eq_false_iff_not] at *
  rcases tri a b with h | h | h
  · exact absurd h h1
  · exact h
  · exact absurd h h2⟩
section
variable {α : Type} {lt : α → α → Bool}
theorem insO_mem (O : StO lt) (x z : α) : ∀ l : List α, z ∈ insO lt x l ↔ z = x ∨ z ∈ l
  | [] => by simp [insO]
  | y :: r => by
    have ih := insO_mem O x z r
    unfold insO
    split
    · simp
    · split
      · rw [List.mem_cons, ih, List.mem_cons]
        constructor
        · rintro (h | h | h)
          · exact .inr (.inl h)
          · exact .inl h
          · exact .inr (.inr h)
        · rintro (h | h | h)
          · exact .inr (.inl h)
          · exact .inl h
          · exact .inr (.inr h)
      · rename_i h1 h2
        have : x = y := O.tot x y (by simpa using h1) (by simpa using h2)
        subst this
        rw [List.mem_cons]
        exact ⟨.inr, fun h => h.elim .inl id⟩
theorem insO_srt (O : StO lt) (x : α) : ∀ {l : List α}, l.Pairwise (fun a b => lt a b = true) → (insO lt x l).Pairwise (fun a b => lt a b = true)
  | [], _ => by unfold insO; exact List.pairwise_singleton ..
  | y :: r, h => by
    obtain ⟨h1, h2⟩ := List.pairwise_cons.mp h
    unfold insO
    split
    · rename_i c
      refine List.pairwise_cons.mpr ⟨fun z hz => ?_, h⟩
      rcases List.mem_cons.mp hz with rfl | hz
      · exact c
      · exact O.tr _ _ _ c (h1 z hz)
    · split
      · rename_i c
        refine List.pairwise_cons.mpr ⟨fun z hz => ?_, insO_srt O x h2⟩
        rcases (insO_mem O x z r).mp hz with rfl | hz
        · exact c
        · exact h1 z hz
      · exact h
theorem setO_mem (O : StO lt) (z : α) : ∀ l : List α, z ∈ setO lt l ↔ z ∈ l
  | [] => by simp [setO]
  | y :: r => by
    have ih := setO_mem O z r
    show z ∈ insO lt y (setO lt r) ↔ _
    rw [insO_mem O, ih, List.mem_cons]
theorem setO_srt (O : StO lt) : ∀ l : List α, (setO lt l).Pairwise (fun a b => lt a b = true)
  | [] => List.Pairwise.nil
  | y :: r => insO_srt O y (setO_srt O r)
theorem srt_uniq (O : StO lt) : ∀ {l k : List α}, l.Pairwise (fun a b => lt a b = true) → k.Pairwise (fun a b => lt a b = true) → (∀ z, z ∈ l ↔ z ∈ k) → l = k
  | [], [], _, _, _ => rfl
  | [], y :: k, _, _, h => absurd ((h y).mpr List.mem_cons_self) (by simp)
  | x :: l, [], _, _, h => absurd ((h x).mp List.mem_cons_self) (by simp)
  | x :: l, y :: k, p, q, h => by
    obtain ⟨p1, p2⟩ := List.pairwise_cons.mp p
    obtain ⟨q1, q2⟩ := List.pairwise_cons.mp q
    have hxy : x = y := by
      rcases List.mem_cons.mp ((h x).mp List.mem_cons_self) with e | e
      · exact e
      · rcases List.mem_cons.mp ((h y).mpr List.mem_cons_self) with e2 | e2
        · exact e2.symm
        · have a := O.tr _ _ _ (q1 x e) (p1 y e2)
          rw [O.irr] at a; cases a
    subst hxy
    have : l = k := srt_uniq O p2 q2 fun z => by
      constructor
      · intro hz
        rcases List.mem_cons.mp ((h z).mp (List.mem_cons_of_mem _ hz)) with e | e
        · subst e
          have := p1 z hz
          rw [O.irr] at this; cases this
        · exact e
      · intro hz
        rcases List.mem_cons.mp ((h z).mpr (List.mem_cons_of_mem _ hz)) with e | e
        · subst e
          have := q1 z hz
          rw [O.irr] at this; cases this
        · exact e
    rw [this]
theorem setO_of (O : StO lt) {l k : List α} (p : k.Pairwise (fun a b => lt a b = true)) (h : ∀ z, z ∈ k ↔ z ∈ l) : k = setO lt l := srt_uniq O p (setO_srt O l) fun z => by rw [h, setO_mem O]
end
end NV
namespace NV
theorem pltS_iff {p q : List Nat × Int} : pltS p q = true ↔ p.1 < q.1 ∨ (p.1 = q.1 ∧ p.2 < q.2) := by
  unfold pltS
  by_cases e : p.1 = q.1
  · rw [if_pos e, decide_eq_true_eq]
    exact ⟨fun h => .inr ⟨e, h⟩, fun h => by
      rcases h with h | h
      · rw [e] at h; exact absurd h (List.lt_irrefl _)
      · exact h.2⟩
  · rw [if_neg e, decide_eq_true_eq]
    exact ⟨.inl, fun h => by
      rcases h with h | h
      · exact h
      · exact absurd h.1 e⟩
theorem pltS_no {p q : List Nat × Int} : pltS p q = false ↔ ¬ (p.1 < q.1 ∨ (p.1 = q.1 ∧ p.2 < q.2)) := by
  rw [← pltS_iff]
  cases pltS p q <;> simp
theorem pltS_asym {p q : List Nat × Int} (h : pltS p q = true) : pltS q p = false := by
  refine pltS_no.mpr fun z => ?_
  rcases pltS_iff.mp h with a | ⟨a1, a2⟩ <;> rcases z with b | ⟨b1, b2⟩
  · exact List.lt_asymm a b
  · rw [b1] at a; exact List.lt_irrefl _ a
  · rw [a1] at b; exact List.lt_irrefl _ b
  · omega
theorem pltS_neg {p q r : List Nat × Int} (h1 : pltS q p = false) (h2 : pltS r q = false) : pltS r p = false := by
  have a := pltS_no.mp h1
  have b := pltS_no.mp h2
  refine pltS_no.mpr fun z => ?_
  rcases tri p.1 q.1 with c | c | c
  · rcases tri q.1 r.1 with d | d | d
    · have := List.lt_trans c d
      rcases z with z | ⟨z, _⟩
      · exact List.lt_asymm this z
      · rw [z] at this; exact List.lt_irrefl _ this
    · rw [d] at c
      rcases z with z | ⟨z, _⟩
      · exact List.lt_asymm c z
      · rw [z] at c; exact List.lt_irrefl _ c
    · exact b (.inl d)
  · rcases tri q.1 r.1 with d | d | d
    · rw [← c] at d
      rcases z with z | ⟨z, _⟩
      · exact List.lt_asymm d z
      · rw [z] at d; exact List.lt_irrefl _ d
    · rcases z with z | ⟨z1, z2⟩
      · rw [c, d] at z; exact List.lt_irrefl _ z
      · have a2 : ¬ q.2 < p.2 := fun y => a (.inr ⟨c.symm, y⟩)
        have b2 : ¬ r.2 < q.2 := fun y => b (.inr ⟨d.symm, y⟩)
        omega
    · exact b (.inl d)
  · exact a (.inl c)
theorem pltS_anti {p q : List Nat × Int} (h1 : pltS q p = false) (h2 : pltS p q = false) : p = q := by
  have a := pltS_no.mp h1
  have b := pltS_no.mp h2
  rcases tri p.1 q.1 with c | c | c
  · exact absurd (.inl c) b
  · have a2 : ¬ q.2 < p.2 := fun y => a (.inr ⟨c.symm, y⟩)
    have b2 : ¬ p.2 < q.2 := fun y => b (.inr ⟨c, y⟩)
    exact Prod.ext c (by omega)
  · exact absurd (.inl c) a
theorem sortPS_srt (ps : List (List Nat × Int)) : (sortPS ps).Pairwise fun a b => pltS b a = false := by
  have := List.pairwise_mergeSort (le := fun a b : List Nat × Int => !pltS b a) (fun a b c h1 h2 => by
    rw [Bool.not_eq_true'] at h1 h2 ⊢
    exact pltS_neg h1 h2) (fun a b => by
    cases e : pltS b a with
    | false => simp
    | true => rw [pltS_asym e]; simp) ps
  exact this.imp fun h => by simpa using h
end NV
namespace NV
/-- not in a list, of data of any depth -/
def opNotInD (a b : D) : Option D := match b with
  | .lst xs => if D.lv 12 a && D.lv 12 (.lst xs) then some (.bl (!(xs.any fun y => D.eqv y a))) else none
  | _ => none
end NV
namespace NV
/-- try: b, except WordError as i: h -/
def sTryQ (i : Nat) (h : Es) (b : Es) : Es := fun ρ => match b ρ with
  | .rz x ρ' => (match h (ρ'.set i (.v (.exc x.k x.m))) with
    | .ok .nx ρ2 => .ok .nx (ρ2.set i .un)
    | _ => .st)
  | r => r
end NV

set_option Elab.async false
set_option linter.all false
set_option maxRecDepth 100000
/-! Sem4: later words. -/
namespace NV
/-- i & 1 -/
def opBAnd : D → D → Option D
  | .int i, .int 1 => if 0 ≤ i then some (.int (i % 2)) else none
  | _, _ => none
/-- list(x), x a text too -/
def opListT : D → Option D
  | .str s => if s.length ≤ line then some (.lst (s.map fun c => .str [c])) else none
  | d => opList d
/-- a list comprehension that an exception may leave -/
def eCompR (g : Tg) (ws : List Nat) (it : Ei) (f : Ev) : Ev := fun ρ => (it ρ).bind fun xs ρ1 => match compL g ws none f xs [] ρ1 with
  | .ok ds ρ2 => .ok (.lst ds) (unwipe ρ1 ρ2 ws)
  | .rz x ρ2 => .rz x (unwipe ρ1 ρ2 ws)
  | .st => .st
end NV

set_option Elab.async false
set_option linter.all false
set_option maxRecDepth 100000
set_option maxHeartbeats 2000000
/-! Lay1: how plain data lies in the abstract heap; what is wanted behind a result. -/
namespace NV
open PySem PySem.Spec PyProof.Rows L2
abbrev St := L2.St

def ofL (s : List Nat) : Str := ⟨s.toArray⟩
theorem ofL_len (s : List Nat) : (ofL s).length = s.length := by
  show s.toArray.size = s.length
  exact List.size_toArray
theorem ofL_cps (s : List Nat) : (ofL s).cps.toList = s := by
  show s.toArray.toList = s
  simp
theorem ofL_inj {s t : List Nat} (h : ofL s = ofL t) : s = t := by
  have := congrArg (fun z => z.cps.toList) h
  simpa [ofL_cps] using this
theorem str_ofL (z : Str) : z = ofL z.cps.toList := by
  cases z with
  | mk a => simp [ofL]

/-- the own classes' names, as the semantics counts them -/
def excNm : Nat → Str
  | 0 => "WordError"
  | 1 => "NoRule"
  | 2 => "NoStart"
  | 3 => "NoPiece"
  | 4 => "NotMixed"
  | 5 => "NoShares"
  | 6 => "NoRow"
  | _ => "TooGreat"
def ExcAt (K : PySem.W.Frag) (k : Nat) (C : Addr) : Prop := PySem.W.nsIn K mainGlobals (excNm k) = some (some (.ref C))
/-- the fields of an exception: none and no dict, or the field most in its dict -/
def ExF (H : Hp) (dd : Option Addr) (vs : List V) : Prop := (vs = [] ∧ dd = none) ∨ ∃ (v : V) (d : Addr), vs = [v] ∧ dd = some d ∧ H d = some (.xd [(("most" : Str), v)])
theorem ExF.mono {H H' : Hp} {dd : Option Addr} {vs : List V} (m : Same H H') (h : ExF H dd vs) : ExF H' dd vs := by
  rcases h with h | ⟨v, d, e1, e2, e3⟩
  · exact .inl h
  · exact .inr ⟨v, d, e1, e2, m _ _ e3⟩
/-- a caught exception -/
def exv (cls : Value) (d : Option Addr) (a : Addr) : HO := .ext fun h => ∃ oe vs, h.get? a = some oe ∧ Zc cls d oe ∧ oe.data = .fields vs
mutual
inductive Rep (K : PySem.W.Frag) (H : Hp) : V → D → Prop
  | non : Rep K H .non .non
  | bl (b : Bool) : Rep K H (.bl b) (.bl b)
  | int (i : Int) : Rep K H (.int i) (.int i)
  | str (s : List Nat) : Rep K H (.str (ofL s)) (.str s)
  | tup {a : Addr} {xs : List V} {ds : List D} : SqT K H a xs → Reps K H xs ds → Rep K H (.ref a) (.tup ds)
  | lst {a : Addr} {xs : List V} {ds : List D} : H a = some (.lst xs) → Reps K H xs ds → Rep K H (.ref a) (.lst ds)
  | scr {a : Addr} {xs : List V} {ds : List D} : SqL K H a xs → Reps K H xs ds → Rep K H (.ref a) (.scr ds)
  | dct {a : Addr} {kvs : List (Key × V)} {es : List (List Nat × D)} : H a = some (.dK kvs) → RepK K H kvs es → Rep K H (.ref a) (.dct es)
  | lck {a : Addr} {o : Obj} {kvs : List (Key × V)} {es : List (List Nat × D)} : H a = some (.frz o (.dK kvs)) → RepK K H kvs es → Rep K H (.ref a) (.obj 0 es)
  | exc {a C : Addr} {dd : Option Addr} {k : Nat} {ms : List D} {vs : List V} : ExcAt K k C → H a = some (exv (.ref C) dd a) → ExF H dd vs → Reps K H vs ms → Rep K H (.ref a) (.exc k ms)
inductive Reps (K : PySem.W.Frag) (H : Hp) : List V → List D → Prop
  | nil : Reps K H [] []
  | cons {v : V} {vs : List V} {d : D} {ds : List D} : Rep K H v d → Reps K H vs ds → Reps K H (v :: vs) (d :: ds)
inductive RepK (K : PySem.W.Frag) (H : Hp) : List (Key × V) → List (List Nat × D) → Prop
  | nil : RepK K H [] []
  | cons {k : List Nat} {v : V} {vs : List (Key × V)} {d : D} {ds : List (List Nat × D)} : Rep K H v d → RepK K H vs ds → RepK K H ((.inr (ofL k), v) :: vs) ((k, d) :: ds)
end
theorem Same.tupS {K : PySem.W.Frag} {H H' : Hp} {a : Addr} {xs : List V} (e : Same H H') (h : SqT K H a xs) : SqT K H' a xs := by
  rcases h with (h | ⟨o, h⟩) | h
  · exact .inl (.inl (e _ _ h))
  · exact .inl (.inr ⟨o, e _ _ h⟩)
  · exact .inr h
section
variable {K : PySem.W.Frag} {H H' : Hp}
mutual
theorem Rep.mono (m : Same H H') : ∀ (d : D) (v : V), Rep K H v d → Rep K H' v d
  | .non, _, h => by cases h; exact .non
  | .bl b, _, h => by cases h; exact .bl b
  | .int i, _, h => by cases h; exact .int i
  | .str s, _, h => by cases h; exact .str s
  | .tup ds, _, h => by
    cases h with
    | tup h1 h2 => exact .tup (Same.tupS m h1) (Reps.mono m ds _ h2)
  | .lst ds, _, h => by
    cases h with
    | lst h1 h2 => exact .lst (m _ _ h1) (Reps.mono m ds _ h2)
  | .scr ds, _, h => by
    cases h with
    | scr h1 h2 => exact .scr (m.seq h1) (Reps.mono m ds _ h2)
  | .dct es, _, h => by
    cases h with
    | dct h1 h2 => exact .dct (m _ _ h1) (RepK.mono m es _ h2)
  | .obj _ es, _, h => by
    cases h with
    | lck h1 h2 => exact .lck (m _ _ h1) (RepK.mono m es _ h2)
  | .exc k ms, _, h => by
    cases h with
    | exc h1 h2 h3 h4 => exact .exc h1 (m _ _ h2) (h3.mono m) (Reps.mono m ms _ h4)
theorem Reps.mono (m : Same H H') : ∀ (ds : List D) (vs : List V), Reps K H vs ds → Reps K H' vs ds
  | [], _, h => by cases h; exact .nil
  | d :: ds, _, h => by
    cases h with
    | cons h1 h2 => exact .cons (Rep.mono m d _ h1) (Reps.mono m ds _ h2)
theorem RepK.mono (m : Same H H') : ∀ (es : List (List Nat × D)) (kvs : List (Key × V)), RepK K H kvs es → RepK K H' kvs es
  | [], _, h => by cases h; exact .nil
  | (k, d) :: es, _, h => by
    cases h with
    | cons h1 h2 => exact .cons (Rep.mono m d _ h1) (RepK.mono m es _ h2)
end
theorem Reps.length : ∀ {ds : List D} {vs : List V}, Reps K H vs ds → vs.length = ds.length
  | [], _, h => by cases h; rfl
  | d :: ds, _, h => by
    cases h with
    | cons h1 h2 => simp [Reps.length h2]
theorem RepK.length : ∀ {ds : List (List Nat × D)} {vs : List (Key × V)}, RepK K H vs ds → vs.length = ds.length
  | [], _, h => by cases h; rfl
  | d :: ds, _, h => by
    cases h with
    | cons h1 h2 => simp [RepK.length h2]
theorem Reps.get : ∀ {ds : List D} {vs : List V} {i : Nat} {d : D}, Reps K H vs ds → ds[i]? = some d → ∃ v, vs[i]? = some v ∧ Rep K H v d
  | [], _, _, _, _, e => by simp at e
  | x :: ds, _, 0, d, h, e => by
    cases h with
    | cons h1 h2 =>
      have e' : x = d := by simpa using e
      subst e'
      exact ⟨_, rfl, h1⟩
  | x :: ds, _, i + 1, d, h, e => by
    cases h with
    | cons h1 h2 =>
      obtain ⟨v, h3, h4⟩ := Reps.get (i := i) (d := d) h2 (by simpa using e)
      exact ⟨v, by simpa using h3, h4⟩
theorem Reps.getV : ∀ {ds : List D} {vs : List V} {i : Nat} {v : V}, Reps K H vs ds → vs[i]? = some v → ∃ d, ds[i]? = some d ∧ Rep K H v d
  | [], _, _, _, h, e => by cases h; simp at e
  | x :: ds, _, 0, v, h, e => by
    cases h with
    | cons h1 h2 =>
      simp at e
      subst e
      exact ⟨_, rfl, h1⟩
  | x :: ds, _, i + 1, v, h, e => by
    cases h with
    | cons h1 h2 =>
      obtain ⟨d, h3, h4⟩ := Reps.getV (i := i) (v := v) h2 (by simpa using e)
      exact ⟨d, by simpa using h3, h4⟩
theorem Reps.append : ∀ {ds es : List D} {vs ws : List V}, Reps K H vs ds → Reps K H ws es → Reps K H (vs ++ ws) (ds ++ es)
  | [], _, _, _, h, g => by cases h; exact g
  | d :: ds, _, _, _, h, g => by
    cases h with
    | cons h1 h2 => exact .cons h1 (Reps.append h2 g)
theorem Reps.drop : ∀ {ds : List D} {vs : List V} (n : Nat), Reps K H vs ds → Reps K H (vs.drop n) (ds.drop n)
  | _, _, 0, h => h
  | [], _, n + 1, h => by cases h; exact .nil
  | d :: ds, _, n + 1, h => by
    cases h with
    | cons h1 h2 => exact Reps.drop n h2
theorem Reps.take : ∀ {ds : List D} {vs : List V} (n : Nat), Reps K H vs ds → Reps K H (vs.take n) (ds.take n)
  | _, _, 0, _ => .nil
  | [], _, n + 1, h => by cases h; exact .nil
  | d :: ds, _, n + 1, h => by
    cases h with
    | cons h1 h2 => exact .cons h1 (Reps.take n h2)
theorem Reps.set {v : V} {d : D} (r : Rep K H v d) : ∀ {ds : List D} {vs : List V} (n : Nat), Reps K H vs ds → Reps K H (vs.set n v) (ds.set n d)
  | [], _, _, h => by cases h; exact .nil
  | _ :: ds, _, 0, h => by
    cases h with
    | cons h1 h2 => exact .cons r h2
  | _ :: ds, _, n + 1, h => by
    cases h with
    | cons h1 h2 => exact .cons h1 (Reps.set r n h2)
theorem Reps.reverse {ds : List D} {vs : List V} (h : Reps K H vs ds) : Reps K H vs.reverse ds.reverse := by
  induction ds generalizing vs with
  | nil => cases h; exact .nil
  | cons d ds ih =>
    cases h with
    | cons h1 h2 =>
      rw [List.reverse_cons, List.reverse_cons]
      exact (ih h2).append (.cons h1 .nil)
theorem Rep.str_iff {v : V} {s : List Nat} (h : Rep K H v (.str s)) : v = .str (ofL s) := by cases h; rfl
theorem Rep.int_iff {v : V} {i : Int} (h : Rep K H v (.int i)) : v = .int i := by cases h; rfl
theorem Rep.bl_iff {v : V} {i : Bool} (h : Rep K H v (.bl i)) : v = .bl i := by cases h; rfl
theorem Rep.non_iff {v : V} (h : Rep K H v .non) : v = .non := by cases h; rfl
/-- a flat value leans on no heap -/
theorem Rep.flat {v : V} {d : D} (f : d.flat = true) (h : Rep K H v d) (H' : Hp) : Rep K H' v d := by
  cases d with
  | non => cases h; exact .non
  | bl b => cases h; exact .bl b
  | int i => cases h; exact .int i
  | str s => cases h; exact .str s
  | _ => exact absurd (show false = true from f) Bool.false_ne_true
end

/-! ### slots -/
def Own (K : PySem.W.Frag) (G H : Hp) (p : Addr) : D → Prop
  | .lst ds => ∃ ws, H p = some (.lst ws) ∧ Reps K G ws ds
  | .dct es => ∃ kvs, H p = some (.dK kvs) ∧ RepK K G kvs es
  | _ => False
def SlOk (K : PySem.W.Frag) (π : Nat → Addr) (G H : Hp) (s : Option (Option V)) : Sl → Prop
  | .un => True
  | .v d => ∃ w, s = some (some w) ∧ Rep K G w d
  | .o d => ∃ p, s = some (some (.ref p)) ∧ G p = none ∧ Own K G H p d
  | .io k d => s = some (some (.ref (π k))) ∧ G (π k) = none ∧ Own K G H (π k) d
def Sl.owned : Sl → Bool
  | .o _ => true
  | .io _ _ => true
  | _ => false
def Ownd (ρ : Env) (σ : St) (b : Addr) : Prop := ∃ (i : Nat) (s : Sl), ρ[i]? = some s ∧ s.owned = true ∧ σ[i]? = some (some (.ref b))
structure SE (K : PySem.W.Frag) (π : Nat → Addr) (ρ : Env) (G : Hp) (σ : St) (H : Hp) : Prop where
  sub : Same G H
  len : ρ.length = σ.length
  ok : ∀ (i : Nat) s, ρ[i]? = some s → SlOk K π G H σ[i]? s
  inj : ∀ (i j : Nat) b s t, ρ[i]? = some s → ρ[j]? = some t → s.owned = true → t.owned = true → σ[i]? = some (some (.ref b)) → σ[j]? = some (some (.ref b)) → i = j
/-- what is tracked and not the def's own to change stays as it was, and does not become so -/
def Ext (ρ : Env) (σ : St) (G H : Hp) (ρ' : Env) (σ' : St) (G' H' : Hp) : Prop := ∀ b o, H b = some o → ¬ Ownd ρ σ b → H' b = some o ∧ ¬ Ownd ρ' σ' b ∧ (G b = none → G' b = none)
theorem Ext.refl {ρ : Env} {σ : St} {G H : Hp} : Ext ρ σ G H ρ σ G H := fun _ _ h n => ⟨h, n, fun z => z⟩
theorem Ext.trans {ρ ρ1 ρ2 : Env} {σ σ1 σ2 : St} {G G1 G2 H H1 H2 : Hp} (a : Ext ρ σ G H ρ1 σ1 G1 H1) (b : Ext ρ1 σ1 G1 H1 ρ2 σ2 G2 H2) : Ext ρ σ G H ρ2 σ2 G2 H2 := fun c o h n =>
  let ⟨h1, n1, g1⟩ := a c o h n
  let ⟨h2, n2, g2⟩ := b c o h1 n1
  ⟨h2, n2, fun z => g2 (g1 z)⟩
/-- what comes of an expression whose list may stay the def's own -/
def RR (K : PySem.W.Frag) (ρ0 : Env) (σ0 : St) (H0 : Hp) (ρ' : Env) (σ' : St) (G' H' : Hp) (r : Sl) (w : V) : Prop := match r with
  | .v d => Rep K G' w d
  | .o d => ∃ p, w = .ref p ∧ G' p = none ∧ Own K G' H' p d ∧ ¬ Ownd ρ' σ' p ∧ (H0 p = none ∨ Ownd ρ0 σ0 p)
  | _ => False
/-- what a level keeps fixed: how exceptions lie, what is wanted of them -/
structure Lv where
  Z : Exn → Value → Option Addr → Hp → Prop
  W : WX

section
variable {K : PySem.W.Frag} {π : Nat → Addr} {ρ ρ1 ρ2 : Env} {G G1 G' : Hp} {σ σ1 : St} {H H1 H' : Hp} {c : Lv} {α β : Type}
theorem Own.some {p : Addr} {d : D} (h : Own K G H p d) : ∃ o, H p = some o := by
  cases d with
  | lst ds => obtain ⟨ws, e, _⟩ := h; exact ⟨_, e⟩
  | dct es => obtain ⟨ws, e, _⟩ := h; exact ⟨_, e⟩
  | _ => exact False.elim h
theorem Own.mono {p : Addr} {d : D} (h : Own K G H p d) (m : Same G G') (e : H' p = H p) : Own K G' H' p d := by
  cases d with
  | lst ds => obtain ⟨ws, h1, h2⟩ := h; exact ⟨ws, e.trans h1, Reps.mono m _ _ h2⟩
  | dct es => obtain ⟨ws, h1, h2⟩ := h; exact ⟨ws, e.trans h1, RepK.mono m _ _ h2⟩
  | _ => exact False.elim h
/-- an owned address: untracked below, there above -/
theorem SE.own (S : SE K π ρ G σ H) {b : Addr} (h : Ownd ρ σ b) : G b = none ∧ ∃ o, H b = some o := by
  obtain ⟨i, s, h1, h2, h3⟩ := h
  have k := S.ok i s h1
  cases s with
  | un => cases h2
  | v d => cases h2
  | o d =>
    obtain ⟨p, e, g, w⟩ := k
    rw [h3] at e
    cases e
    exact ⟨g, w.some⟩
  | io n d =>
    obtain ⟨e, g, w⟩ := k
    rw [h3] at e
    cases e
    exact ⟨g, w.some⟩
theorem SE.notown (S : SE K π ρ G σ H) {b : Addr} {o : HO} (h : G b = some o) : ¬ Ownd ρ σ b := fun q => by
  rw [(S.own q).1] at h
  cases h
/-- what grows without touching what is the def's own -/
structure Grow (G H G' H' : Hp) : Prop where
  g : Same G G'
  h : Same H H'
  sub : Same G' H'
  new : ∀ b o, G' b = some o → G b = some o ∨ H b = none
theorem Grow.refl (s : Same G H) : Grow G H G H := ⟨Same.refl _, Same.refl _, s, fun _ _ h => .inl h⟩
theorem Same.new {p : Addr} {o : HO} (n : H p = none) : Same H (upd H p o) := fun b x e => by
  rw [upd_ne (ne_of_none e n)]
  exact e
/-- a new object, tracked -/
theorem Grow.tr (s : Same G H) {p : Addr} {o : HO} (n : H p = none) : Grow G H (upd G p o) (upd H p o) := by
  have ng : G p = none := by
    cases e : G p with
    | none => rfl
    | some x =>
      rw [s _ _ e] at n
      cases n
  refine ⟨Same.new ng, Same.new n, fun b x e => ?_, fun b x e => ?_⟩
  · by_cases hb : b = p
    · subst hb
      rw [upd_same] at e ⊢
      exact e
    · rw [upd_ne hb] at e ⊢
      exact s _ _ e
  · by_cases hb : b = p
    · subst hb; exact .inr n
    · rw [upd_ne hb] at e
      exact .inl e
/-- a new object that is kept apart -/
theorem Grow.apart (s : Same G H) {p : Addr} {o : HO} (n : H p = none) : Grow G H G (upd H p o) :=
  ⟨Same.refl _, Same.new n, s.trans (Same.new n), fun _ _ h => .inl h⟩
theorem SE.grow (S : SE K π ρ G σ H) (g : Grow G H G' H') : SE K π ρ G' σ H' ∧ Ext ρ σ G H ρ σ G' H' := by
  have no : ∀ p, Ownd ρ σ p → G' p = none ∧ H' p = H p := fun p hp => by
    obtain ⟨h1, o, h2⟩ := S.own hp
    refine ⟨?_, (g.h _ _ h2).trans h2.symm⟩
    cases e : G' p with
    | none => rfl
    | some x =>
      rcases g.new p x e with q | q
      · rw [h1] at q; cases q
      · rw [h2] at q; cases q
  refine ⟨⟨g.sub, S.len, fun i s hs => ?_, S.inj⟩, fun b o hb n => ⟨g.h _ _ hb, n, fun z => ?_⟩⟩
  case refine_2 =>
    cases e : G' b with
    | none => rfl
    | some x =>
      rcases g.new b x e with q | q
      · rw [z] at q; cases q
      · rw [hb] at q; cases q
  have k := S.ok i s hs
  cases s with
  | un => trivial
  | v d =>
    obtain ⟨w, e, r⟩ := k
    exact ⟨w, e, r.mono g.g _⟩
  | o d =>
    obtain ⟨p, e, n, w⟩ := k
    obtain ⟨h1, h2⟩ := no p ⟨i, _, hs, rfl, e⟩
    exact ⟨p, e, h1, w.mono g.g h2⟩
  | io j d =>
    obtain ⟨e, n, w⟩ := k
    obtain ⟨h1, h2⟩ := no (π j) ⟨i, _, hs, rfl, e⟩
    exact ⟨e, h1, w.mono g.g h2⟩

/-- what is wanted behind a result -/
def Po (K : PySem.W.Frag) (c : Lv) (π : Nat → Addr) (ρ : Env) (G : Hp) (σ : St) (H : Hp) (r : Res β) (J : β → Env → Hp → Hp → Prop) : Prop := match r with
  | .ok b ρ' => ∀ G' H', Same G G' → Ext ρ σ G H ρ' σ G' H' → SE K π ρ' G' σ H' → J b ρ' G' H'
  | .rz x ρ' => ∀ cls d G' H', Same G G' → Ext ρ σ G H ρ' σ G' H' → SE K π ρ' G' σ H' → c.Z x cls d G' → c.W cls d σ H'
  | .st => False
theorem Po.step {r : Res β} {J : β → Env → Hp → Hp → Prop} (s : Same G G1) (e : Ext ρ σ G H ρ1 σ G1 H1) (h : Po K c π ρ G σ H r J) : Po K c π ρ1 G1 σ H1 r J := by
  cases r with
  | ok b ρ' => exact fun G' H' s' e' S => h G' H' (s.trans s') (e.trans e') S
  | rz x ρ' => exact fun cls d G' H' s' e' S => h cls d G' H' (s.trans s') (e.trans e') S
  | st => exact h
theorem Po.mono {r : Res β} {J J' : β → Env → Hp → Hp → Prop} (h : Po K c π ρ G σ H r J) (m : ∀ b ρ' G' H', Same G G' → Ext ρ σ G H ρ' σ G' H' → SE K π ρ' G' σ H' → J b ρ' G' H' → J' b ρ' G' H') : Po K c π ρ G σ H r J' := by
  cases r with
  | ok b ρ' => exact fun G' H' s' e' S => m b ρ' G' H' s' e' S (h G' H' s' e' S)
  | rz x ρ' => exact h
  | st => exact h
theorem Po.bind {r : Res α} {k : α → Env → Res β} {J : β → Env → Hp → Hp → Prop} (h : Po K c π ρ G σ H (r.bind k) J) : Po K c π ρ G σ H r fun a ρ1 G1 H1 => Po K c π ρ1 G1 σ H1 (k a ρ1) J := by
  cases r with
  | ok b ρ' => exact fun G' H' s' e' S => Po.step s' e' h
  | rz x ρ' => exact h
  | st => exact h
/-- now -/
theorem Po.now {b : β} {J : β → Env → Hp → Hp → Prop} (h : Po K c π ρ G σ H (.ok b ρ) J) (S : SE K π ρ G σ H) : J b ρ G H := h G H (Same.refl _) Ext.refl S
theorem Po.grow {b : β} {J : β → Env → Hp → Hp → Prop} (h : Po K c π ρ G σ H (.ok b ρ) J) (S : SE K π ρ G σ H) (g : Grow G H G' H') : J b ρ G' H' :=
  h G' H' g.g (S.grow g).2 (S.grow g).1
end

/-! ### readings -/
section
variable (K : PySem.W.Frag) (c : Lv)
def JE (Q : VK) : D → Env → Hp → Hp → Prop := fun d _ G' H' => ∀ w, Rep K G' w d → Q w H'
def JA (Q : List V → Hp → Prop) : List D → Env → Hp → Hp → Prop := fun d _ G' H' => ∀ w, Reps K G' w d → Q w H'
def JT (Q : Bool → Hp → Prop) : D → Env → Hp → Hp → Prop := fun d _ _ H' => ∃ b, d = .bl b ∧ Q b H'
def tE (f : Ev) : TE := fun σ H Q => ∃ π ρ G, SE K π ρ G σ H ∧ Po K c π ρ G σ H (f ρ) (JE K Q)
def tA (f : Ea) : TA := fun σ H Q => ∃ π ρ G, SE K π ρ G σ H ∧ Po K c π ρ G σ H (f ρ) (JA K Q)
def tT (f : Ev) : TT := fun σ H Q => ∃ π ρ G, SE K π ρ G σ H ∧ Po K c π ρ G σ H (f ρ) (JT Q)
def tO (f : Eo) : TE := fun σ H Q => ∃ π ρ G, SE K π ρ G σ H ∧ Po K c π ρ G σ H (f ρ) fun r ρ' G' H' => ∀ w, RR K ρ σ H ρ' σ G' H' r w → Q w H'
/-- a statement's -/
def PoS (π : Nat → Addr) (ρ : Env) (G : Hp) (σ : St) (H : Hp) (r : Res Fl) (D : Ends) : Prop := match r with
  | .ok .nx ρ' => ∀ σ' G' H', Same G G' → Ext ρ σ G H ρ' σ' G' H' → SE K π ρ' G' σ' H' → D.nx σ' H'
  | .ok .brk ρ' => ∀ σ' G' H', Same G G' → Ext ρ σ G H ρ' σ' G' H' → SE K π ρ' G' σ' H' → D.bk σ' H'
  | .ok .cnt ρ' => ∀ σ' G' H', Same G G' → Ext ρ σ G H ρ' σ' G' H' → SE K π ρ' G' σ' H' → D.ct σ' H'
  | .ok (.ret r) ρ' => ∀ w σ' G' H', Same G G' → Ext ρ σ G H ρ' σ' G' H' → SE K π ρ' G' σ' H' → RR K ρ σ H ρ' σ' G' H' r w → D.rt w H'
  | .rz x ρ' => ∀ cls d σ' G' H', Same G G' → Ext ρ σ G H ρ' σ' G' H' → SE K π ρ' G' σ' H' → c.Z x cls d G' → c.W cls d σ' H'
  | .st => False
def tS (g : Es) : TS := fun D σ H => ∃ π ρ G, SE K π ρ G σ H ∧ PoS K c π ρ G σ H (g ρ) D
end
end NV

set_option Elab.async false
set_option linter.all false
set_option maxRecDepth 100000
set_option maxHeartbeats 2000000
/-! Lay2: operators and built-ins by values. -/
namespace NV
open PySem PySem.Spec PyProof.Rows L2
theorem PE_imp {X : Cx} {e : Expr} {t t' : TE} (h : PE X e t) (m : ∀ σ H Q, t' σ H Q → t σ H Q) : PE X e t' := ⟨fun pins s σ H Q I hw => h.run pins s σ H Q I (m σ H Q hw)⟩
theorem PT_imp {X : Cx} {e : Expr} {t t' : TT} (h : PT X e t) (m : ∀ σ H Q, t' σ H Q → t σ H Q) : PT X e t' := ⟨fun pins s σ H Q I hw => h.run pins s σ H Q I (m σ H Q hw)⟩
theorem PW_imp {X : Cx} {e : Expr} {t t' : TT} (h : PW X e t) (m : ∀ σ H Q, t' σ H Q → t σ H Q) : PW X e t' := ⟨fun wh pins s σ H Q I hw => h.run wh pins s σ H Q I (m σ H Q hw)⟩
theorem PS_imp {X : Cx} {e : Stmt} {t t' : TS} (h : PS X e t) (m : ∀ D σ H, t' D σ H → t D σ H) : PS X e t' := ⟨fun pins s σ H D I hw => h.run pins s σ H D I (m D σ H hw)⟩

/-! ### universal readings -/
def rU2 (X : Cx) (f : Value → Value → Sem Value) : R2 := fun x y H Q => ∀ (pins : List (Addr × Obj)) (s : Shared) (σ : St) (v u : Value), Inv X pins σ H s → RelV x v → RelV y u → wpAny (model X.prog X.w) X.A (f v u) (EP X pins σ Q) X.xe s
theorem opr_U {X : Cx} {f : Value → Value → Sem Value} : OpR X f (rU2 X f) := fun pins s σ H x y v u Q I rx ry h => h pins s σ v u I rx ry
theorem rU2_of {X : Cx} {f : Value → Value → Sem Value} {r : R2} (h : OpR X f r) {x y : V} {H : Hp} {Q : VK} (q : r x y H Q) : rU2 X f x y H Q := fun pins s σ v u I rx ry => h pins s σ H x y v u Q I rx ry q
def rU1 (X : Cx) (f : Value → Sem Value) : V → Hp → VK → Prop := fun x H Q => ∀ (pins : List (Addr × Obj)) (s : Shared) (σ : St) (v : Value), Inv X pins σ H s → RelV x v → wpAny (model X.prog X.w) X.A (f v) (EP X pins σ Q) X.xe s
theorem unr_U {X : Cx} {f : Value → Sem Value} : UnR X f (rU1 X f) := fun pins s σ H x v Q I rx h => h pins s σ v I rx
theorem rU1_of {X : Cx} {f : Value → Sem Value} {r : V → Hp → VK → Prop} (h : UnR X f r) {x : V} {H : Hp} {Q : VK} (q : r x H Q) : rU1 X f x H Q := fun pins s σ v I rx => h pins s σ H x v Q I rx q
def rUC (X : Cx) (f : Value) : List V → Hp → VK → Prop := fun xs H Q => ∀ (pins : List (Addr × Obj)) (s : Shared) (σ : St) (us : List Value), Inv X pins σ H s → Vals xs us → wpAny (model X.prog X.w) X.A (call f us) (EP X pins σ Q) X.xe s
theorem callr_U {X : Cx} {f : Value} : CallR X f (rUC X f) := fun pins s σ H xs us Q I r h => h pins s σ us I r
theorem rUC_of {X : Cx} {f : Value} {r : List V → Hp → VK → Prop} (h : CallR X f r) {xs : List V} {H : Hp} {Q : VK} (q : r xs H Q) : rUC X f xs H Q := fun pins s σ us I rx => h pins s σ H xs us Q I rx q
def rUM (X : Cx) (id : String) : V → List V → Hp → VK → Prop := fun x xs H Q => ∀ (pins : List (Addr × Obj)) (s : Shared) (σ : St) (v : Value) (us : List Value), Inv X pins σ H s → RelV x v → Vals xs us → wpAny (model X.prog X.w) X.A (call (.builtin id) (v :: us)) (EP X pins σ Q) X.xe s
theorem mtr_U {X : Cx} {id : String} : MtR X id (rUM X id) := fun pins s σ H x xs v us Q I rx r h => h pins s σ v us I rx r
theorem rUM_of {X : Cx} {id : String} {r : V → List V → Hp → VK → Prop} (h : MtR X id r) {x : V} {xs : List V} {H : Hp} {Q : VK} (q : r x xs H Q) : rUM X id x xs H Q := fun pins s σ v us I rx rs => h pins s σ H x xs v us Q I rx rs q
def rUI (X : Cx) : R2 := fun x y H Q => ∀ (value slice : Expr) (pins : List (Addr × Obj)) (s : Shared) (σ : St) (v u : Value), Inv X pins σ H s → RelV x v → RelV y u → subscripted slice false v u = operate [v, u] (getItem v u) → wpAny (model X.prog X.w) X.A (subscriptTail value slice v u) (EP X pins σ Q) X.xe s
theorem ixr_U {X : Cx} : IxR X (rUI X) := fun value slice pins s σ H x y v u Q I rx ry h hs => h value slice pins s σ v u I rx ry hs
theorem rUI_of {X : Cx} {r : R2} (h : IxR X r) {x y : V} {H : Hp} {Q : VK} (q : r x y H Q) : rUI X x y H Q := fun value slice pins s σ v u I rx ry hs => h value slice pins s σ H x y v u Q I rx ry q hs

/-- what an operation makes of data -/
def Fin (K : PySem.W.Frag) (G H : Hp) (Q : VK) (d : D) : Prop := ∀ w G' H', Grow G H G' H' → Rep K G' w d → Q w H'
theorem Fin.flat {K : PySem.W.Frag} {G H : Hp} {Q : VK} {d : D} (s : Same G H) {w : V} (r : Rep K G w d) (h : Fin K G H Q d) : Q w H := h w G H (Grow.refl s) r
theorem Fin.int {K : PySem.W.Frag} {G H : Hp} {Q : VK} {i : Int} (s : Same G H) (h : Fin K G H Q (.int i)) : Q (.int i) H := h.flat s (.int i)
theorem Fin.bl {K : PySem.W.Frag} {G H : Hp} {Q : VK} {i : Bool} (s : Same G H) (h : Fin K G H Q (.bl i)) : Q (.bl i) H := h.flat s (.bl i)
theorem Fin.str {K : PySem.W.Frag} {G H : Hp} {Q : VK} {i : List Nat} (s : Same G H) (h : Fin K G H Q (.str i)) : Q (.str (ofL i)) H := h.flat s (.str i)
/-- a new list -/
theorem Fin.lst {K : PySem.W.Frag} {G H : Hp} {Q : VK} {ds : List D} {ws : List V} (s : Same G H) (r : Reps K G ws ds) (h : Fin K G H Q (.lst ds)) : ∀ p, H p = none → Q (.ref p) (upd H p (.lst ws)) := fun p n => by
  have g := Grow.tr (o := .lst ws) s n
  exact h (.ref p) _ _ g (.lst upd_same (Reps.mono g.g _ _ r))
theorem Fin.tup {K : PySem.W.Frag} {G H : Hp} {Q : VK} {ds : List D} {ws : List V} (s : Same G H) (r : Reps K G ws ds) (h : Fin K G H Q (.tup ds)) : ∀ p, H p = none → Q (.ref p) (upd H p (.tup ws)) := fun p n => by
  have g := Grow.tr (o := .tup ws) s n
  exact h (.ref p) _ _ g (.tup (.inl (.inl upd_same)) (Reps.mono g.g _ _ r))
structure OpD (X : Cx) (f : Value → Value → Sem Value) (g : D → D → Option D) : Prop where
  run : ∀ {G H : Hp} {x y : V} {a b d : D} {Q : VK}, Same G H → Rep X.K G x a → Rep X.K G y b → g a b = some d → Fin X.K G H Q d → rU2 X f x y H Q
structure UnD (X : Cx) (f : Value → Sem Value) (g : D → Option D) : Prop where
  run : ∀ {G H : Hp} {x : V} {a d : D} {Q : VK}, Same G H → Rep X.K G x a → g a = some d → Fin X.K G H Q d → rU1 X f x H Q
structure CallD1 (X : Cx) (f : Value) (g : D → Option D) : Prop where
  run : ∀ {G H : Hp} {x : V} {a d : D} {Q : VK}, Same G H → Rep X.K G x a → g a = some d → Fin X.K G H Q d → rUC X f [x] H Q
structure CallD2 (X : Cx) (f : Value) (g : D → D → Option D) : Prop where
  run : ∀ {G H : Hp} {x y : V} {a b d : D} {Q : VK}, Same G H → Rep X.K G x a → Rep X.K G y b → g a b = some d → Fin X.K G H Q d → rUC X f [x, y] H Q
structure MtD1 (X : Cx) (id : String) (g : D → D → Option D) : Prop where
  run : ∀ {G H : Hp} {x y : V} {a b d : D} {Q : VK}, Same G H → Rep X.K G x a → Rep X.K G y b → g a b = some d → Fin X.K G H Q d → rUM X id x [y] H Q
structure IxD (X : Cx) (g : D → D → Option D) : Prop where
  run : ∀ {G H : Hp} {x y : V} {a b d : D} {Q : VK}, Same G H → Rep X.K G x a → Rep X.K G y b → g a b = some d → Fin X.K G H Q d → rUI X x y H Q

section
variable {X : Cx}
theorem line_eq : line = sizeLine := by rw [sizeLine_eq]; rfl
theorem big_log {n : Nat} (h : n < big) : n.log2 < 100000 := by
  unfold big at h
  exact PySem.Flt.log2_lt_of (k := 100000) (by decide) h
theorem ofL_app (s t : List Nat) : ofL s ++ ofL t = ofL (s ++ t) := TL.ext_tl (by rw [TL.tl_append]; rfl)
theorem opd_add : OpD X (binaryOp .Add) opAdd := by
  refine ⟨fun {G H x y a b d Q} s ra rb e h => ?_⟩
  cases a <;> cases b <;> first | (simp [opAdd] at e; done) | skip
  · cases ra; cases rb
    rename_i i j
    obtain rfl : D.int (i + j) = d := Option.some.inj e
    exact rU2_of op_add ⟨i, j, rfl, rfl, h.int s⟩
  · cases ra; cases rb
    rename_i i j
    simp only [opAdd] at e
    split at e
    · rename_i hl
      obtain rfl : D.str (i ++ j) = d := Option.some.inj e
      refine rU2_of op_add_str ⟨_, _, rfl, rfl, ?_, ?_⟩
      · rw [ofL_len, ofL_len, ← line_eq]; exact hl
      · rw [ofL_app]; exact h.str s
    · cases e
  · cases ra with
    | tup h1 r1 =>
      cases rb with
      | tup h2 r2 =>
        rename_i i j
        simp only [opAdd] at e
        split at e
        · rename_i hl
          obtain rfl : D.tup _ = d := Option.some.inj e
          refine rU2_of op_catA ⟨_, _, _, _, rfl, rfl, Same.tupS s h1, Same.tupS s h2, ?_, fun q => ?_, fun _ q => ?_, fun _ _ => h.tup s (r1.append r2)⟩
          · rw [r1.length, r2.length, ← line_eq]; exact hl
          · subst q
            cases r1
            exact h.flat s (.tup h2 r2)
          · subst q
            cases r2
            rw [List.append_nil] at h
            exact h.flat s (.tup h1 r1)
        · cases e
  · cases ra with
    | lst h1 r1 =>
      cases rb with
      | lst h2 r2 =>
        rename_i i j
        simp only [opAdd] at e
        split at e
        · rename_i hl
          obtain rfl : D.lst _ = d := Option.some.inj e
          refine rU2_of op_cat ⟨_, _, _, _, rfl, rfl, s _ _ h1, s _ _ h2, ?_, h.lst s (r1.append r2)⟩
          rw [r1.length, r2.length, ← line_eq]; exact hl
        · cases e
theorem opd_iadd : OpD X (inplaceOp .Add) opIAdd := by
  refine ⟨fun {G H x y a b d Q} s ra rb e h => ?_⟩
  cases a <;> cases b <;> first | (simp [opIAdd] at e; done) | skip
  · cases ra; cases rb
    rename_i i j
    obtain rfl : D.int (i + j) = d := Option.some.inj e
    exact rU2_of iop_add ⟨i, j, rfl, rfl, h.int s⟩
theorem opd_isub : OpD X (inplaceOp .Sub) opSub := by
  refine ⟨fun {G H x y a b d Q} s ra rb e h => ?_⟩
  cases a <;> cases b <;> first | (simp [opSub] at e; done) | skip
  · cases ra; cases rb
    rename_i i j
    obtain rfl : D.int (i - j) = d := Option.some.inj e
    exact rU2_of iop_sub ⟨i, j, rfl, rfl, h.int s⟩
theorem opd_sub : OpD X (binaryOp .Sub) opSub := by
  refine ⟨fun {G H x y a b d Q} s ra rb e h => ?_⟩
  cases a <;> cases b <;> first | (simp [opSub] at e; done) | skip
  cases ra; cases rb
  rename_i i j
  obtain rfl : D.int (i - j) = d := Option.some.inj e
  exact rU2_of op_sub ⟨i, j, rfl, rfl, h.int s⟩
theorem foldl_flat (z : Array Nat) : ∀ (n : Nat) (acc : Array Nat), ((List.replicate n z).foldl (· ++ ·) acc).toList = acc.toList ++ (List.replicate n z.toList).flatten
  | 0, acc => by simp
  | n + 1, acc => by
    rw [List.replicate_succ, List.foldl_cons, foldl_flat z n, List.replicate_succ, List.flatten_cons, Array.toList_append, List.append_assoc]
theorem mul_ofL (z : List Nat) (k : Int) (h : 0 ≤ k) : Txt.mul (ofL z) k = ofL (List.replicate k.toNat z).flatten := by
  unfold Txt.mul
  split
  · rename_i h1
    have : k = 0 := by omega
    subst this
    rfl
  · split
    · rename_i h2
      rw [Bool.or_eq_true, beq_iff_eq, beq_iff_eq] at h2
      rcases h2 with h2 | h2
      · subst h2
        show ofL z = ofL (List.replicate 1 z).flatten
        simp
      · rw [ofL_len] at h2
        have : z = [] := List.length_eq_zero_iff.mp h2
        subst this
        have : ∀ n : Nat, (List.replicate n ([] : List Nat)).flatten = [] := fun n => by induction n with
          | zero => rfl
          | succ n ih => rw [List.replicate_succ, List.flatten_cons, ih]; rfl
        rw [this]
    · refine congrArg Str.mk ?_
      apply Array.ext'
      rw [foldl_flat]
      simp [ofL]
theorem opd_mul : OpD X (binaryOp .Mult) opMul := by
  refine ⟨fun {G H x y a b d Q} s ra rb e h => ?_⟩
  cases a <;> cases b <;> first | (simp [opMul] at e; done) | skip
  · cases ra; cases rb
    rename_i i j
    simp only [opMul] at e
    split at e
    · rename_i hm
      obtain rfl : D.int (i * j) = d := Option.some.inj e
      unfold mulOk at hm
      rw [Bool.and_eq_true, decide_eq_true_eq, decide_eq_true_eq] at hm
      have h1 := big_log hm.1
      have h2 := big_log hm.2
      exact rU2_of op_mulW ⟨i, j, rfl, rfl, (by unfold CMulW; omega), h.int s⟩
    · cases e
  · cases ra; cases rb
    rename_i z k
    simp only [opMul] at e
    split at e
    · rename_i hm
      obtain ⟨h0, h1, h2⟩ := hm
      obtain rfl : D.str _ = d := Option.some.inj e
      refine fun pins s' σ v u I rx ry => ?_
      obtain ⟨t, rfl⟩ := (show ∃ t, v = Value.str (ofL z) t from rx)
      obtain ⟨t', rfl⟩ := (show ∃ t, u = Value.int k t from ry)
      have hl : ∀ n : Nat, 1 ≤ n → z.length * n ≤ line → z.length ≤ line := fun n h1 h2 => Nat.le_trans (Nat.le_mul_of_pos_right _ h1) h2
      have e2 : Txt.mul (ofL z) k = ofL (List.replicate k.toNat z).flatten := mul_ofL z k h0
      refine SB.mul ⟨?_, fun hk _ => ?_, fun hk _ => ?_⟩ fun t' tk => ⟨.str (Txt.mul (ofL z) k), H, I.tok tk, ⟨t', rfl⟩, ?_⟩
      · rw [Bool.or_eq_false_iff, decide_eq_false_iff_not, decide_eq_false_iff_not]; omega
      · rw [ofL_len]
        have h3 : z.length ≤ 16777216 := hl k.toNat (by omega) h2
        have h4 : (16777216 : Int) ≤ (2 ^ 63 - 1) / k := (Int.le_ediv_iff_mul_le (by omega)).mpr (by omega)
        omega
      · rw [ofL_len]
        show decide (_ > sizeLine) = false
        rw [decide_eq_false_iff_not, ← line_eq]
        omega
      · rw [e2]; exact h.str s
    · cases e
  · cases ra with
    | lst h1 r1 =>
      cases rb
      simp only [opMul] at e
      split at e
      · rename_i hm
        obtain rfl : D.lst _ = d := Option.some.inj e
        refine rU2_of op_rep ⟨_, _, _, rfl, rfl, s _ _ h1, (by have := hm.1; omega), (by have := hm.2.1; omega), ?_, h.lst s ?_⟩
        · rw [r1.length, ← line_eq]; exact hm.2.2
        · clear hm h
          generalize Int.toNat _ = n
          induction n with
          | zero => exact .nil
          | succ n ih =>
            rw [List.replicate_succ, List.replicate_succ, List.flatten_cons, List.flatten_cons]
            exact r1.append ih
      · cases e
theorem opd_mod : OpD X (binaryOp .Mod) opMod := by
  refine ⟨fun {G H x y a b d Q} s ra rb e h => ?_⟩
  cases a <;> cases b <;> first | (simp [opMod] at e; done) | skip
  cases ra; cases rb
  rename_i i j
  simp only [opMod] at e
  split at e
  · rename_i hm
    obtain rfl : D.int _ = d := Option.some.inj e
    exact rU2_of op_mod ⟨i, j, rfl, rfl, hm, h.int s⟩
  · cases e
theorem opd_div : OpD X (binaryOp .FloorDiv) opDiv := by
  refine ⟨fun {G H x y a b d Q} s ra rb e h => ?_⟩
  cases a <;> cases b <;> first | (simp [opDiv] at e; done) | skip
  cases ra; cases rb
  rename_i i j
  simp only [opDiv] at e
  split at e
  · rename_i hm
    obtain rfl : D.int _ = d := Option.some.inj e
    exact rU2_of op_fdivW ⟨i, j, rfl, rfl, wide_div hm.1 hm.2 (by decide) (by decide), h.int s⟩
  · cases e
theorem opd_pow : OpD X (binaryOp .Pow) opPow := by
  refine ⟨fun {G H x y a b d Q} s ra rb e h => ?_⟩
  cases a <;> cases b <;> first | (simp [opPow] at e; done) | skip
  cases ra; cases rb
  rename_i i j
  simp only [opPow] at e
  split at e
  · rename_i hm
    obtain rfl : D.int _ = d := Option.some.inj e
    obtain ⟨h0, hm | hm⟩ := hm
    · exact rU2_of op_pow ⟨i, j, rfl, rfl, ⟨h0, hm.1, by have := hm.2; omega⟩, h.int s⟩
    · refine fun pins s' σ v u I rx ry => ?_
      obtain ⟨t, rfl⟩ := (show ∃ t, v = Value.int i t from rx)
      obtain ⟨t', rfl⟩ := (show ∃ t, u = Value.int j t from ry)
      have hb : Builtin.Int.intBits i ≤ 100001 := by
        have := big_log hm.2
        unfold Builtin.Int.intBits
        first
        | omega
        | (split <;> omega)
      refine pow_int h0 ?_ ⟨.int (i ^ j.toNat), H, I.tok _, ⟨_, rfl⟩, h.int s⟩
      have h1 : (Builtin.Int.intBits i : Int) * j ≤ 100001 * 1000 := Int.mul_le_mul (by omega) hm.1 h0 (by decide)
      omega
  · cases e
theorem und_neg : UnD X (unaryOp .USub) opNeg := by
  refine ⟨fun {G H x a d Q} s ra e h => ?_⟩
  cases a <;> first | (simp [opNeg] at e; done) | skip
  cases ra
  obtain rfl : D.int _ = d := Option.some.inj e
  exact rU1_of un_neg ⟨_, rfl, h.int s⟩
end
end NV

set_option Elab.async false
set_option linter.all false
set_option maxRecDepth 100000
set_option maxHeartbeats 2000000
/-! Lay3: comparisons, subscripts, built-ins by values. -/
namespace NV
open PySem PySem.Spec PyProof.Rows L2

/-! ### data as the library's -/
mutual
def toP : D → PyData
  | .non => .none
  | .bl b => .bool b
  | .int i => .int i
  | .str s => .str (ofL s)
  | .tup xs => .tuple (toPs xs)
  | .lst xs => .list (toPs xs)
  | .dct _ => .none
  | .obj _ _ => .none
  | .exc _ _ => .none
  | .scr _ => .none
def toPs : List D → List PyData
  | [] => []
  | x :: xs => toP x :: toPs xs
end
section
variable {K : PySem.W.Frag} {H : Hp}
mutual
theorem dp_of : ∀ (d : D) (n : Nat) (v : V), Rep K H v d → d.lv n = true → Dp K H v (toP d)
  | .non, _, _, h, _ => by cases h; exact .non
  | .bl b, _, _, h, _ => by cases h; exact .bl b
  | .int i, _, _, h, _ => by cases h; exact .int i
  | .str s, _, _, h, _ => by cases h; exact .str _
  | .tup ds, n, _, h, l => by
    cases n with
    | zero => simp [D.lv] at l
    | succ n =>
      cases h with
      | tup h1 h2 => exact .tup h1 (dps_of ds n _ h2 (by simpa only [D.lv] using l))
  | .lst ds, n, _, h, l => by
    cases n with
    | zero => simp [D.lv] at l
    | succ n =>
      cases h with
      | lst h1 h2 => exact .lst (SqL.of h1) (dps_of ds n _ h2 (by simpa only [D.lv] using l))
  | .dct _, n, _, h, l => by cases n <;> simp [D.lv] at l
  | .obj _ _, n, _, h, l => by cases n <;> simp [D.lv] at l
  | .exc _ _, n, _, h, l => by cases n <;> simp [D.lv] at l
  | .scr _, n, _, h, l => by cases n <;> simp [D.lv] at l
theorem dps_of : ∀ (ds : List D) (n : Nat) (vs : List V), Reps K H vs ds → D.lvs n ds = true → DpAll K H vs (toPs ds)
  | [], _, _, h, _ => by cases h; exact .nil
  | d :: ds, n, _, h, l => by
    rw [D.lvs, Bool.and_eq_true] at l
    cases h with
    | cons h1 h2 => exact .cons (dp_of d n _ h1 l.1) (dps_of ds n _ h2 l.2)
end
end
mutual
theorem can_of : ∀ (d : D) (n : Nat), d.lv n = true → (toP d).canLay0 = true ∧ (toP d).depth ≤ n
  | .non, _, _ => by simp [toP, PyData.canLay0, PyData.depth]
  | .bl b, _, _ => by simp [toP, PyData.canLay0, PyData.depth]
  | .int i, _, _ => by simp [toP, PyData.canLay0, PyData.depth]
  | .str s, n, l => by
    have l' : (s.all fun c => decide (c < 1114112)) = true := by cases n <;> simpa only [D.lv] using l
    refine ⟨?_, by simp [toP, PyData.depth]⟩
    simp only [toP, PyData.canLay0, PyData.strOk, ofL]
    rw [List.all_eq_true] at l'
    rw [List.all_toArray, List.all_eq_true]
    exact l'
  | .tup ds, n, l => by
    cases n with
    | zero => simp [D.lv] at l
    | succ n =>
      have := cans_of ds n (by simpa only [D.lv] using l)
      simp only [toP, PyData.canLay0, PyData.depth]
      exact ⟨this.1, by omega⟩
  | .lst ds, n, l => by
    cases n with
    | zero => simp [D.lv] at l
    | succ n =>
      have := cans_of ds n (by simpa only [D.lv] using l)
      simp only [toP, PyData.canLay0, PyData.depth]
      exact ⟨this.1, by omega⟩
  | .dct _, n, l => by cases n <;> simp [D.lv] at l
  | .obj _ _, n, l => by cases n <;> simp [D.lv] at l
  | .exc _ _, n, l => by cases n <;> simp [D.lv] at l
  | .scr _, n, l => by cases n <;> simp [D.lv] at l
theorem cans_of : ∀ (ds : List D) (n : Nat), D.lvs n ds = true → PyData.canLayAll0 (toPs ds) = true ∧ PyData.depthAll (toPs ds) ≤ n
  | [], _, _ => by simp [toPs, PyData.canLayAll0, PyData.depthAll]
  | d :: ds, n, l => by
    rw [D.lvs, Bool.and_eq_true] at l
    have h1 := can_of d n l.1
    have h2 := cans_of ds n l.2
    simp only [toPs, PyData.canLayAll0, PyData.depthAll, h1.1, h2.1, Bool.and_self, true_and]
    omega
end
theorem shaped_of {d : D} (l : d.lv 12 = true) : SeqAt.shaped (toP d) = true := by
  obtain ⟨h1, h2⟩ := can_of d 12 l
  unfold SeqAt.shaped
  rw [h1, decide_eq_true (show (toP d).depth ≤ 64 by omega)]
  rfl
theorem beq_ofL (s t : List Nat) : (ofL s == ofL t) = (s == t) := by
  rw [Bool.eq_iff_iff, beq_iff_eq, beq_iff_eq]
  exact ⟨ofL_inj, fun e => by rw [e]⟩
mutual
theorem eqv_of : ∀ (a b : D) (n m : Nat), a.lv n = true → b.lv m = true → PyData.eqv (toP a) (toP b) = D.eqv a b
  | .non, b, n, m, _, l => by cases b <;> first | (simp [toP, PyData.eqv, D.eqv]; done) | (cases m <;> simp [D.lv] at l; done)
  | .bl _, b, n, m, _, l => by cases b <;> first | (simp [toP, PyData.eqv, D.eqv]; done) | (cases m <;> simp [D.lv] at l; done)
  | .int _, b, n, m, _, l => by cases b <;> first | (simp [toP, PyData.eqv, D.eqv]; done) | (cases m <;> simp [D.lv] at l; done)
  | .str _, b, n, m, _, l => by cases b <;> first | (simp [toP, PyData.eqv, D.eqv, beq_ofL]; done) | (cases m <;> simp [D.lv] at l; done)
  | .tup xs, b, n, m, k, l => by
    cases n with
    | zero => simp [D.lv] at k
    | succ n =>
      cases b with
      | tup ys =>
        cases m with
        | zero => simp [D.lv] at l
        | succ m =>
          simp only [toP, PyData.eqv, D.eqv]
          exact eqvs_of xs ys n m (by simpa only [D.lv] using k) (by simpa only [D.lv] using l)
      | _ => first | (simp [toP, PyData.eqv, D.eqv]; done) | (cases m <;> simp [D.lv] at l; done)
  | .lst xs, b, n, m, k, l => by
    cases n with
    | zero => simp [D.lv] at k
    | succ n =>
      cases b with
      | lst ys =>
        cases m with
        | zero => simp [D.lv] at l
        | succ m =>
          simp only [toP, PyData.eqv, D.eqv]
          exact eqvs_of xs ys n m (by simpa only [D.lv] using k) (by simpa only [D.lv] using l)
      | _ => first | (simp [toP, PyData.eqv, D.eqv]; done) | (cases m <;> simp [D.lv] at l; done)
  | .dct _, _, n, _, l, _ => by cases n <;> simp [D.lv] at l
  | .obj _ _, _, n, _, l, _ => by cases n <;> simp [D.lv] at l
  | .exc _ _, _, n, _, l, _ => by cases n <;> simp [D.lv] at l
  | .scr _, _, n, _, l, _ => by cases n <;> simp [D.lv] at l
theorem eqvs_of : ∀ (as bs : List D) (n m : Nat), D.lvs n as = true → D.lvs m bs = true → PyData.eqvAll (toPs as) (toPs bs) = D.eqvs as bs
  | [], [], _, _, _, _ => by simp [toPs, PyData.eqvAll, D.eqvs]
  | [], b :: bs, _, _, _, _ => by simp [toPs, PyData.eqvAll, D.eqvs]
  | a :: as, [], _, _, _, _ => by simp [toPs, PyData.eqvAll, D.eqvs]
  | a :: as, b :: bs, n, m, k, l => by
    rw [D.lvs, Bool.and_eq_true] at k l
    simp only [toPs, PyData.eqvAll, D.eqvs, eqv_of a b n m k.1 l.1, eqvs_of as bs n m k.2 l.2]
end
section
variable {X : Cx}
theorem opd_eq (hu : X.A.units + 64 < cLine) : OpD X (compareOp .Eq) opEq := by
  refine ⟨fun {G H x y a b d Q} s ra rb e h => ?_⟩
  unfold opEq at e
  split at e
  · rename_i hl
    rw [Bool.and_eq_true] at hl
    obtain rfl := Option.some.inj e
    refine rU2_of (op_eqD hu) ⟨_, _, dp_of a 12 _ (ra.mono s _) hl.1, dp_of b 12 _ (rb.mono s _) hl.2, shaped_of hl.1, shaped_of hl.2, ?_⟩
    rw [eqv_of a b 12 12 hl.1 hl.2]
    exact h.bl s
  · cases e
theorem opd_ne (hu : X.A.units + 64 < cLine) : OpD X (compareOp .NotEq) opNe := by
  refine ⟨fun {G H x y a b d Q} s ra rb e h => ?_⟩
  unfold opNe at e
  split at e
  · rename_i hl
    rw [Bool.and_eq_true] at hl
    obtain rfl := Option.some.inj e
    refine rU2_of (op_neD hu) ⟨_, _, dp_of a 12 _ (ra.mono s _) hl.1, dp_of b 12 _ (rb.mono s _) hl.2, shaped_of hl.1, shaped_of hl.2, ?_⟩
    rw [eqv_of a b 12 12 hl.1 hl.2]
    exact h.bl s
  · cases e
theorem opd_lt : OpD X (compareOp .Lt) opLt := by
  refine ⟨fun {G H x y a b d Q} s ra rb e h => ?_⟩
  cases a <;> cases b <;> first | (simp [opLt] at e; done) | skip
  cases ra; cases rb
  obtain rfl := Option.some.inj e
  exact rU2_of op_lt ⟨_, _, rfl, rfl, h.bl s⟩
theorem opd_le : OpD X (compareOp .LtE) opLe := by
  refine ⟨fun {G H x y a b d Q} s ra rb e h => ?_⟩
  cases a <;> cases b <;> first | (simp [opLe] at e; done) | skip
  cases ra; cases rb
  obtain rfl := Option.some.inj e
  exact rU2_of op_le ⟨_, _, rfl, rfl, h.bl s⟩
theorem opd_gt : OpD X (compareOp .Gt) opGt := by
  refine ⟨fun {G H x y a b d Q} s ra rb e h => ?_⟩
  cases a <;> cases b <;> first | (simp [opGt] at e; done) | skip
  cases ra; cases rb
  obtain rfl := Option.some.inj e
  exact rU2_of op_gt ⟨_, _, rfl, rfl, h.bl s⟩
theorem opd_ge : OpD X (compareOp .GtE) opGe := by
  refine ⟨fun {G H x y a b d Q} s ra rb e h => ?_⟩
  cases a <;> cases b <;> first | (simp [opGe] at e; done) | skip
  cases ra; cases rb
  obtain rfl := Option.some.inj e
  exact rU2_of op_ge ⟨_, _, rfl, rfl, h.bl s⟩
theorem opd_is : OpD X (compareOp .Is) opIs := by
  refine ⟨fun {G H x y a b d Q} s ra rb e h => ?_⟩
  cases b <;> first | (simp [opIs] at e; done) | skip
  · cases rb
    cases ra <;> (obtain rfl := Option.some.inj e; exact rU2_of op_isN ⟨rfl, h.bl s⟩)
  · cases rb
    cases ra <;> first | (simp [opIs] at e; done) | skip
    obtain rfl := Option.some.inj e
    exact rU2_of op_isBl ⟨_, _, rfl, rfl, h.bl s⟩
theorem opd_isNot : OpD X (compareOp .IsNot) opIsNot := by
  refine ⟨fun {G H x y a b d Q} s ra rb e h => ?_⟩
  cases b <;> first | (simp [opIsNot] at e; done) | skip
  · cases rb
    cases ra <;> (obtain rfl := Option.some.inj e; exact rU2_of op_notN ⟨rfl, h.bl s⟩)
  · cases rb
    cases ra <;> first | (simp [opIsNot] at e; done) | skip
    obtain rfl := Option.some.inj e
    exact rU2_of op_notBl ⟨_, _, rfl, rfl, h.bl s⟩
end
end NV

set_option Elab.async false
set_option linter.all false
set_option maxRecDepth 100000
set_option maxHeartbeats 2000000
/-! Lay4: in, subscripts, built-ins and methods by values. -/
namespace NV
open PySem PySem.Spec PyProof.Rows L2
section
variable {K : PySem.W.Frag} {H : Hp}
theorem flatV_of {v : V} {d : D} (h : Rep K H v d) : d.flat = true → flatV v = true := by
  intro f
  cases h <;> first | rfl | (simp [D.flat] at f; done)
theorem eqV_of {v w : V} {d e : D} (h : Rep K H v d) (g : Rep K H w e) (f : d.flat = true) (f' : e.flat = true) : eqV v w = D.eqv d e := by
  cases h <;> first | (simp [D.flat] at f; done) | skip
  all_goals (cases g <;> first | (simp [D.flat] at f'; done) | (simp [eqV, D.eqv]; done) | (simp [eqV, D.eqv, beq_ofL]; done))
theorem flats_of : ∀ {vs : List V} {ds : List D}, Reps K H vs ds → ds.all D.flat = true → vs.all flatV = true
  | _, [], h, _ => by cases h; rfl
  | _, d :: ds, h, f => by
    rw [List.all_cons, Bool.and_eq_true] at f
    cases h with
    | cons h1 h2 => rw [List.all_cons, flatV_of h1 f.1, flats_of h2 f.2]; rfl
theorem anyV_of {v : V} {d : D} (h : Rep K H v d) (f : d.flat = true) : ∀ {vs : List V} {ds : List D}, Reps K H vs ds → ds.all D.flat = true → inV v vs = ds.any fun y => D.eqv y d
  | _, [], g, _ => by cases g; rfl
  | _, e :: ds, g, k => by
    rw [List.all_cons, Bool.and_eq_true] at k
    cases g with
    | cons g1 g2 =>
      have ih := anyV_of h f g2 k.2
      unfold inV at ih ⊢
      rw [List.any_cons, List.any_cons, ih, eqV_of g1 h k.1 f]
theorem valV_of {k : List Nat} : ∀ {kvs : List (Key × V)} {es : List (List Nat × D)}, RepK K H kvs es → (look k es = none → valV kvs (.inr (ofL k)) = none) ∧ (∀ d, look k es = some d → ∃ v, valV kvs (.inr (ofL k)) = some v ∧ Rep K H v d)
  | _, [], h => by
    cases h
    exact ⟨fun _ => rfl, fun d e => by simp [look] at e⟩
  | _, (x, e) :: es, h => by
    cases h with
    | cons h1 h2 =>
      obtain ⟨i1, i2⟩ := valV_of (k := k) h2
      by_cases q : x = k
      · subst q
        refine ⟨fun z => by simp [look] at z, fun d z => ?_⟩
        have e' : e = d := by simpa [look] using z
        subst e'
        exact ⟨_, valV_pos rfl, h1⟩
      · have nq : ¬ (Sum.inr (ofL x) : Key) = Sum.inr (ofL k) := fun z => q (ofL_inj (Sum.inr.inj z))
        have e1 : look k ((x, e) :: es) = look k es := by simp [look, q]
        rw [e1, valV_neg nq]
        exact ⟨i1, i2⟩
end

/-! ### one sign in a text -/
theorem occ1_size (x : Str) (c lim : Nat) : ∀ (m cur : Nat) (st : Array Nat × Nat), cur + m = x.length + 1 → st.snd ≤ cur → st.fst.size + m ≤ lim →
    (forIn (List.range' cur m) st (StrLaws.occBody x ⟨#[c]⟩ x.length lim)).run.fst.size = st.fst.size + (x.cps.toList.drop cur).count c
  | 0, cur, st, h, _, _ => by
    have hl : x.length = x.cps.toList.length := by simp [Str.length]
    have e : x.cps.toList.drop cur = [] := List.drop_eq_nil_of_le (by omega)
    rw [e]
    simp
  | m + 1, cur, st, h, hs, hl => by
    rw [List.range'_succ, List.forIn_cons]
    have key := StrLaws.subAt_one x c cur
    unfold StrLaws.occBody
    by_cases hc : x.cps.toList[cur]? = some c
    · obtain ⟨k1, k2⟩ := key.mpr hc
      rw [if_pos ⟨⟨⟨by omega, hs⟩, k1⟩, k2⟩]
      have ih := occ1_size x c lim m (cur + 1) (st.fst.push cur, cur + (⟨#[c]⟩ : Str).length) (by omega) (Nat.le_refl _) (by simp only [Array.size_push]; omega)
      have hd : x.cps.toList.drop cur = c :: x.cps.toList.drop (cur + 1) := by
        obtain ⟨q1, q2⟩ := List.getElem?_eq_some_iff.mp hc
        rw [List.drop_eq_getElem_cons q1, q2]
      rw [hd, List.count_cons_self]
      simp only [pure_bind]
      refine Eq.trans ih ?_
      simp only [Array.size_push]
      omega
    · rw [if_neg (fun z => hc (key.mp ⟨z.1.2, z.2⟩))]
      have ih := occ1_size x c lim m (cur + 1) st (by omega) (by omega) (by omega)
      simp only [pure_bind]
      refine Eq.trans ih ?_
      cases hd : x.cps.toList.drop cur with
      | nil =>
        have : x.cps.toList.drop (cur + 1) = [] := by
          rw [← List.drop_drop, hd]; rfl
        rw [this]
      | cons a r =>
        have e1 : x.cps.toList[cur]? = some a := by
          rw [← List.head?_drop, hd]; rfl
        have e2 : x.cps.toList.drop (cur + 1) = r := by
          rw [← List.drop_drop, hd]; rfl
        rw [e2, List.count_cons_of_ne (fun z => hc (by rw [e1, z]))]
theorem count_one (s : List Nat) (c : Nat) : Txt.count (ofL s) (ofL [c]) = (s.count c : Nat) := by
  have key := occ1_size (ofL s) c ((ofL s).length + 1) ((ofL s).length + 1) 0 (#[], 0) (by omega) (Nat.le_refl _) (by simp)
  unfold Txt.count
  rw [StrLaws.occ_eq]
  simp only [Array.length_toList]
  have : ofL [c] = ⟨#[c]⟩ := rfl
  rw [this]
  have k2 : (forIn (List.range' 0 ((ofL s).length + 1 - 0)) ((#[] : Array Nat), 0) (StrLaws.occBody (ofL s) ⟨#[c]⟩ (ofL s).length ((ofL s).length + 1))).run.fst.size = s.count c := by
    refine Eq.trans key ?_
    simp [ofL_cps]
  rw [k2]
theorem idxOf_is {c : Nat} : ∀ {l : List Nat} {a : Nat}, l[a]? = some c → (∀ i, i < a → l[i]? ≠ some c) → l.idxOf c = a
  | [], a, h, _ => by simp at h
  | x :: r, 0, h, _ => by
    have : x = c := by simpa using h
    rw [this, List.idxOf_cons_self]
  | x :: r, a + 1, h, n => by
    have nx : x ≠ c := fun z => n 0 (by omega) (by rw [z]; rfl)
    have ih := idxOf_is (l := r) (a := a) (by simpa using h) fun i hi => by
      have := n (i + 1) (by omega)
      simpa using this
    have hb : (x == c) = false := by simpa using nx
    simp [List.idxOf_cons, hb, ih]
theorem occ_index (s : List Nat) (c : Nat) (h : c ∈ s) : ∃ rest, Builtin.Str.occurrences (ofL s) (ofL [c]) 0 (ofL s).length 1 = s.idxOf c :: rest := by
  have e1 : ofL [c] = ⟨#[c]⟩ := rfl
  rw [StrLaws.occ_eq, e1]
  have at_iff : ∀ i, StrLaws.At (ofL s) ⟨#[c]⟩ (ofL s).length i ↔ s[i]? = some c := fun i => by
    have := StrLaws.subAt_one (ofL s) c i
    rw [ofL_cps] at this
    exact this
  have hm : s.idxOf c < s.length := List.idxOf_lt_length_iff.mpr h
  have hg : s[s.idxOf c]? = some c := by
    rw [List.getElem?_eq_getElem hm, List.getElem_idxOf hm]
  have hmem : s.idxOf c ∈ List.range' 0 ((ofL s).length + 1 - 0) := by
    rw [List.mem_range'_1, ofL_len]; omega
  rcases StrLaws.occ_first (ofL s) ⟨#[c]⟩ (ofL s).length 1 (Nat.le_refl _) (List.range' 0 ((ofL s).length + 1 - 0)) 0 (fun _ _ => Nat.zero_le _) with ⟨_, h2⟩ | ⟨pre, a, post, hl, h3, h4, h5⟩
  · exact absurd ((at_iff _).mpr hg) (h2 _ hmem)
  · have ea : s.idxOf c = a := by
      refine idxOf_is ((at_iff a).mp h4) fun i hi hh => ?_
      refine h5 i ?_ ((at_iff i).mpr hh)
      have hlen := congrArg List.length hl
      simp only [List.length_range', List.length_append, List.length_cons] at hlen
      have ha : (List.range' 0 ((ofL s).length + 1 - 0))[pre.length]? = some a := by rw [hl]; simp
      rw [List.getElem?_range' (by omega)] at ha
      have ha' : pre.length = a := by simpa using ha
      have hi' : i < pre.length := by omega
      have q : (List.range' 0 ((ofL s).length + 1 - 0))[i]? = pre[i]? := by rw [hl, List.getElem?_append_left hi']
      rw [List.getElem?_range' (by omega)] at q
      exact List.mem_of_getElem? (i := i) (by rw [← q]; simp)
    rw [ea]
    generalize (forIn (List.range' 0 ((ofL s).length + 1 - 0)) ((#[] : Array Nat), 0) (StrLaws.occBody (ofL s) ⟨#[c]⟩ (ofL s).length 1)).run.fst = z at h3
    cases hz : z.toList with
    | nil =>
      have : z[0]? = none := by rw [← Array.getElem?_toList, hz]; rfl
      rw [this] at h3; cases h3
    | cons y r =>
      have : z[0]? = some y := by rw [← Array.getElem?_toList, hz]; rfl
      rw [this] at h3
      cases h3
      exact ⟨r, rfl⟩

section
variable {X : Cx}
theorem opd_in (hu : X.A.units + 1 < cLine) : OpD X (compareOp .In) opIn := by
  refine ⟨fun {G H x y a b d Q} s ra rb e h => ?_⟩
  have seqs : ∀ (ds : List D) (p : Addr) (ws : List V), Reps X.K G ws ds → (SqL X.K H p ws ∨ SqT X.K H p ws) → y = .ref p → (if (D.flat a && ds.all D.flat) = true then some (D.bl (ds.any fun y => D.eqv y a)) else none) = some d → rU2 X (compareOp .In) x y H Q := by
    intro ds p ws rs hq ey e
    split at e
    · rename_i hf
      rw [Bool.and_eq_true] at hf
      obtain rfl := Option.some.inj e
      refine rU2_of op_in_seq ⟨p, ws, ey, hq, flatV_of ra hf.1, flats_of rs hf.2, ?_⟩
      rw [if_neg Bool.false_ne_true, anyV_of ra hf.1 rs hf.2]
      exact h.bl s
    · cases e
  cases rb with
  | str t =>
    cases ra with
    | str z =>
      match z, e with
      | [c], e =>
        obtain rfl := Option.some.inj e
        exact rU2_of op_in_sign ⟨c, ofL t, rfl, rfl, by rw [ofL_cps]; exact h.bl s⟩
    | _ => simp [opIn] at e
  | @dct pd kvs es h1 h2 =>
    cases ra with
    | str z =>
      have e' : some (D.bl (look z es).isSome) = some d := by
        match z, e with
        | [], e => exact e
        | [c], e => exact e
        | c :: c' :: r, e => exact e
      obtain rfl := Option.some.inj e'
      intro pins s' σ v u I rx ry
      obtain rfl : u = Value.ref _ := ry
      obtain ⟨v1, v2⟩ := valV_of (k := z) h2
      have g := DGet.k (k := .inr (ofL z)) (s _ _ h1)
      refine d_in hu I g rx fun s3 I3 => ⟨.bl _, H, I3, rfl, ?_⟩
      cases hl : look z es with
      | none => rw [v1 hl]; have q := h.bl s; rw [hl] at q; exact q
      | some d' =>
        obtain ⟨w, e1, _⟩ := v2 _ hl
        rw [e1]; have q := h.bl s; rw [hl] at q; exact q
    | _ => simp [opIn] at e
  | tup h1 h2 =>
    refine seqs _ _ _ h2 (.inr (Same.tupS s h1)) rfl ?_
    match a, e with
    | .str [c], e => exact e
    | .str [], e => exact e
    | .str (_ :: _ :: _), e => exact e
    | .non, e => exact e
    | .bl _, e => exact e
    | .int _, e => exact e
    | .tup _, e => exact e
    | .lst _, e => exact e
    | .dct _, e => exact e
    | .obj _ _, e => exact e
    | .exc _ _, e => exact e
    | .scr _, e => exact e
  | lst h1 h2 =>
    refine seqs _ _ _ h2 (.inl (SqL.of (s _ _ h1))) rfl ?_
    match a, e with
    | .str [c], e => exact e
    | .str [], e => exact e
    | .str (_ :: _ :: _), e => exact e
    | .non, e => exact e
    | .bl _, e => exact e
    | .int _, e => exact e
    | .tup _, e => exact e
    | .lst _, e => exact e
    | .dct _, e => exact e
    | .obj _ _, e => exact e
    | .exc _ _, e => exact e
    | .scr _, e => exact e
  | _ => simp [opIn] at e
theorem opd_notIn (hu : X.A.units + 1 < cLine) : OpD X (compareOp .NotIn) opNotIn := by
  refine ⟨fun {G H x y a b d Q} s ra rb e h => ?_⟩
  have e0 : ∃ c, opIn a b = some (.bl c) ∧ d = .bl (!c) := by
    unfold opNotIn at e
    split at e
    · rename_i c hc
      exact ⟨c, hc, (Option.some.inj e).symm⟩
    · cases e
  clear e
  obtain ⟨c0, e, rfl⟩ := e0
  have seqs : ∀ (ds : List D) (p : Addr) (ws : List V), Reps X.K G ws ds → (SqL X.K H p ws ∨ SqT X.K H p ws) → y = .ref p → (if (D.flat a && ds.all D.flat) = true then some (D.bl (ds.any fun y => D.eqv y a)) else none) = some (.bl c0) → rU2 X (compareOp .NotIn) x y H Q := by
    intro ds p ws rs hq ey e
    split at e
    · rename_i hf
      rw [Bool.and_eq_true] at hf
      have e2 := D.bl.inj (Option.some.inj e)
      refine rU2_of op_notIn_seq ⟨p, ws, ey, hq, flatV_of ra hf.1, flats_of rs hf.2, ?_⟩
      rw [if_pos rfl, anyV_of ra hf.1 rs hf.2, e2]
      exact h.bl s
    · cases e
  cases rb with
  | str t =>
    cases ra with
    | str z =>
      match z, e with
      | [c], e =>
        have e2 : decide (c ∈ t) = c0 := D.bl.inj (Option.some.inj e)
        exact rU2_of op_notIn_sign ⟨c, ofL t, rfl, rfl, by rw [ofL_cps, e2]; exact h.bl s⟩
    | _ => simp [opIn] at e
  | @dct pd kvs es h1 h2 =>
    cases ra with
    | str z =>
      have e' : some (D.bl (look z es).isSome) = some (.bl c0) := by
        match z, e with
        | [], e => exact e
        | [c], e => exact e
        | c :: c' :: r, e => exact e
      have e2 := D.bl.inj (Option.some.inj e')
      intro pins s' σ v u I rx ry
      obtain rfl : u = Value.ref _ := ry
      obtain ⟨v1, v2⟩ := valV_of (k := z) h2
      have g := DGet.k (k := .inr (ofL z)) (s _ _ h1)
      refine d_notIn hu I g rx fun s3 I3 => ⟨.bl _, H, I3, rfl, ?_⟩
      have q := h.bl s
      rw [← e2] at q
      cases hl : look z es with
      | none => rw [v1 hl]; rw [hl] at q; exact q
      | some d' =>
        obtain ⟨w, e1, _⟩ := v2 _ hl
        rw [e1]; rw [hl] at q; exact q
    | _ => simp [opIn] at e
  | tup h1 h2 =>
    refine seqs _ _ _ h2 (.inr (Same.tupS s h1)) rfl ?_
    match a, e with
    | .str [c], e => exact e
    | .str [], e => exact e
    | .str (_ :: _ :: _), e => exact e
    | .non, e => exact e
    | .bl _, e => exact e
    | .int _, e => exact e
    | .tup _, e => exact e
    | .lst _, e => exact e
    | .dct _, e => exact e
    | .obj _ _, e => exact e
    | .exc _ _, e => exact e
    | .scr _, e => exact e
  | lst h1 h2 =>
    refine seqs _ _ _ h2 (.inl (SqL.of (s _ _ h1))) rfl ?_
    match a, e with
    | .str [c], e => exact e
    | .str [], e => exact e
    | .str (_ :: _ :: _), e => exact e
    | .non, e => exact e
    | .bl _, e => exact e
    | .int _, e => exact e
    | .tup _, e => exact e
    | .lst _, e => exact e
    | .dct _, e => exact e
    | .obj _ _, e => exact e
    | .exc _ _, e => exact e
    | .scr _, e => exact e
  | _ => simp [opIn] at e

/-! ### subscripts -/
theorem atI_at {α : Type} (xs : List α) (i : Int) : atI xs i = NV.at? xs i := rfl
theorem at_len {α β : Type} {xs : List α} {ys : List β} (h : xs.length = ys.length) {i : Int} {b : β} (e : NV.at? ys i = some b) : ∃ j : Nat, ys[j]? = some b ∧ ∀ a, xs[j]? = some a → atI xs i = some a := by
  rw [← atI_at] at e
  unfold atI at e ⊢
  rw [h]
  cases hj : L2.ixN ys.length i with
  | none => rw [hj] at e; cases e
  | some j =>
    rw [hj] at e
    exact ⟨j, e, fun a ha => ha⟩
theorem ixd (hu : X.A.units + 1 < cLine) : IxD X opIx := by
  refine ⟨fun {G H x y a b d Q} s ra rb e h => ?_⟩
  cases ra with
  | tup h1 h2 =>
    cases rb with
    | int i =>
      obtain ⟨j, e1, e2⟩ := at_len h2.length (show NV.at? _ i = some d from e)
      obtain ⟨v, e3, r⟩ := h2.get e1
      exact rUI_of ix_tup ⟨_, _, i, v, rfl, rfl, Same.tupS s h1, e2 v e3, h v G H (Grow.refl s) r⟩
    | _ => simp [opIx] at e
  | lst h1 h2 =>
    cases rb with
    | int i =>
      obtain ⟨j, e1, e2⟩ := at_len h2.length (show NV.at? _ i = some d from e)
      obtain ⟨v, e3, r⟩ := h2.get e1
      exact rUI_of ix_list ⟨_, _, i, v, rfl, rfl, SqL.of (s _ _ h1), e2 v e3, h v G H (Grow.refl s) r⟩
    | _ => simp [opIx] at e
  | scr h1 h2 =>
    cases rb with
    | int i =>
      obtain ⟨j, e1, e2⟩ := at_len h2.length (show NV.at? _ i = some d from e)
      obtain ⟨v, e3, r⟩ := h2.get e1
      exact rUI_of ix_list ⟨_, _, i, v, rfl, rfl, s.seq h1, e2 v e3, h v G H (Grow.refl s) r⟩
    | _ => simp [opIx] at e
  | str z =>
    cases rb with
    | int i =>
      simp only [opIx] at e
      split at e
      · rename_i hz
        cases ec : NV.at? z i with
        | none => rw [ec] at e; cases e
        | some c =>
          rw [ec] at e
          obtain rfl : D.str [c] = d := Option.some.inj e
          refine rUI_of ix_str ⟨ofL z, i, c, rfl, rfl, ?_, ?_, h.str s⟩
          · rw [ofL_len, ← line_eq]; exact hz
          · rw [ofL_cps]; exact ec
      · cases e
    | _ => simp [opIx] at e
  | @dct pd kvs es h1 h2 =>
    cases rb with
    | str z =>
      obtain ⟨v, e1, r⟩ := (valV_of (k := z) h2).2 d (show look z es = some d from e)
      intro value slice pins s' σ v' u I rx ry hs
      obtain rfl : v' = Value.ref _ := rx
      have g : DGet H pd (.str (ofL z)) (some v) := by
        have g := DGet.k (k := .inr (ofL z)) (s _ _ h1)
        rw [e1] at g
        exact g
      exact tail_any (dict_typeIs I g) PySem.F.slot_dict_getitem.lookup (d_getItem hu I g ry fun w' s3 I3 rw' => ⟨v, H, I3, rw', h v G H (Grow.refl s) r⟩) hs
    | _ => simp [opIx] at e
  | _ => simp [opIx] at e
end
end NV

set_option Elab.async false
set_option linter.all false
set_option maxRecDepth 100000
set_option maxHeartbeats 2000000
/-! Lay5: slices, built-ins, methods by values. -/
namespace NV
open PySem PySem.Spec PyProof.Rows L2
def rUS (X : Cx) : V → Option Int → Option Int → Hp → VK → Prop := fun x lo hi H Q => ∀ (pins : List (Addr × Obj)) (s : Shared) (σ : St) (v vl vu : Value) (sl : Addr), Inv X pins σ H s → RelV x v → s.heap.IsSliceOf sl vl vu .none → IsPart vl lo → IsPart vu hi →
    ∃ T id, typeLookup (.type T) "__getitem__" = pure (some (.builtin id)) ∧ s.TypeIs v T ∧ wpAny (model X.prog X.w) X.A (getItem v (.ref sl)) (EP X pins σ Q) X.xe s
theorem slr_U {X : Cx} : SlR X (rUS X) := fun pins s σ H x v vl vu lo hi sl Q I rx hs pl pu h => h pins s σ v vl vu sl I rx hs pl pu
theorem rUS_of {X : Cx} {r : V → Option Int → Option Int → Hp → VK → Prop} (h : SlR X r) {x : V} {lo hi : Option Int} {H : Hp} {Q : VK} (q : r x lo hi H Q) : rUS X x lo hi H Q := fun pins s σ v vl vu sl I rx hs pl pu => h pins s σ H x v vl vu lo hi sl Q I rx hs pl pu q
structure SlD (X : Cx) (g : D → Option Int → Option Int → Option D) : Prop where
  run : ∀ {G H : Hp} {x : V} {a d : D} {lo hi : Option Int} {Q : VK}, Same G H → Rep X.K G x a → g a lo hi = some d → Fin X.K G H Q d → rUS X x lo hi H Q
theorem clip_sIx (n d : Nat) (o : Option Int) : clip n d o = HT.sIx n d o := by
  cases o <;> rfl
section
variable {X : Cx}
theorem Reps.cut {K : PySem.W.Frag} {H : Hp} {vs : List V} {ds : List D} (h : Reps K H vs ds) (lo hi : Option Int) : Reps K H (cutV vs lo hi) (NV.cut ds lo hi) := by
  unfold cutV NV.cut
  rw [clip_sIx, clip_sIx, h.length]
  exact (h.drop _).take _
theorem sld : SlD X opCut := by
  refine ⟨fun {G H x a d lo hi Q} s ra e h => ?_⟩
  cases ra with
  | str z =>
    simp only [opCut] at e
    split at e
    · rename_i hz
      obtain rfl : D.str _ = d := Option.some.inj e
      refine rUS_of sl_str ⟨ofL z, rfl, by rw [ofL_len, ← line_eq]; exact hz, ?_⟩
      have q := h.str s
      have ez : cutS (ofL z) lo hi = ofL (NV.cut z lo hi) := by
        unfold cutS NV.cut
        rw [clip_sIx, clip_sIx, ofL_len, ofL_cps]
        rfl
      rw [ez]
      exact q
    · cases e
  | lst h1 h2 =>
    obtain rfl : D.lst _ = d := Option.some.inj e
    exact rUS_of sl_list ⟨_, _, rfl, SqL.of (s _ _ h1), h.lst s (h2.cut lo hi)⟩
  | scr h1 h2 =>
    obtain rfl : D.lst _ = d := Option.some.inj e
    exact rUS_of sl_list ⟨_, _, rfl, s.seq h1, h.lst s (h2.cut lo hi)⟩
  | @tup pa xs ds h1 h2 =>
    obtain rfl : D.tup _ = d := Option.some.inj e
    refine rUS_of sl_tupA ⟨_, _, rfl, Same.tupS s h1, fun w => ?_, fun w => h.tup s (h2.cut lo hi)⟩
    refine h.flat s (.tup h1 ?_)
    have : NV.cut ds lo hi = ds := by
      unfold NV.cut
      rw [clip_sIx, clip_sIx, ← h2.length, w.1, w.2, h2.length]
      simp
    rw [this]
    exact h2
  | _ => simp [opCut] at e

theorem ints_vals {K : PySem.W.Frag} {H : Hp} : ∀ {ds : List D} {vs : List V} {ns : List Int}, Reps K H vs ds → intsD ds = some ns → vs = ns.map V.int
  | [], _, _, h, e => by
    cases h
    obtain rfl : [] = _ := Option.some.inj e
    rfl
  | d :: ds, _, ns, h, e => by
    cases h with
    | cons h1 h2 =>
      cases d <;> first | (simp [intsD] at e; done) | skip
      simp only [intsD] at e
      cases e1 : intsD ds with
      | none => rw [e1] at e; cases e
      | some ms =>
        rw [e1] at e
        obtain rfl := Option.some.inj e
        rw [List.map_cons, ← ints_vals h2 e1, h1.int_iff]
theorem strs_vals {K : PySem.W.Frag} {H : Hp} : ∀ {ds : List D} {vs : List V} {ns : List (List Nat)}, Reps K H vs ds → strsD ds = some ns → vs = (ns.map ofL).map V.str
  | [], _, _, h, e => by
    cases h
    obtain rfl : [] = _ := Option.some.inj e
    rfl
  | d :: ds, _, ns, h, e => by
    cases h with
    | cons h1 h2 =>
      cases d <;> first | (simp [strsD] at e; done) | skip
      simp only [strsD] at e
      cases e1 : strsD ds with
      | none => rw [e1] at e; cases e
      | some ms =>
        rw [e1] at e
        obtain rfl := Option.some.inj e
        rw [List.map_cons, List.map_cons, ← strs_vals h2 e1, h1.str_iff]
theorem cd_len : CallD1 X (.builtin "len") opLen := by
  refine ⟨fun {G H x a d Q} s ra e h => ?_⟩
  cases ra with
  | str z =>
    simp only [opLen] at e
    split at e
    · rename_i hz
      obtain rfl := Option.some.inj e
      refine rUC_of call_len_str ⟨ofL z, rfl, by rw [ofL_len, ← line_eq]; exact hz, ?_⟩
      rw [ofL_len]; exact h.int s
    · cases e
  | lst h1 h2 =>
    obtain rfl := Option.some.inj e
    refine rUC_of call_len_seq ⟨_, _, rfl, .inl (SqL.of (s _ _ h1)), ?_⟩
    rw [h2.length]; exact h.int s
  | scr h1 h2 =>
    obtain rfl := Option.some.inj e
    refine rUC_of call_len_seq ⟨_, _, rfl, .inl (s.seq h1), ?_⟩
    rw [h2.length]; exact h.int s
  | tup h1 h2 =>
    obtain rfl := Option.some.inj e
    refine rUC_of call_len_seq ⟨_, _, rfl, .inr (Same.tupS s h1), ?_⟩
    rw [h2.length]; exact h.int s
  | _ => simp [opLen] at e
theorem cd_sum (hc : X.calm = true) : CallD1 X (.builtin "sum") opSum := by
  refine ⟨fun {G H x a d Q} s ra e h => ?_⟩
  cases ra with
  | lst h1 h2 =>
    simp only [opSum, Option.map_eq_some_iff] at e
    obtain ⟨ns, e1, rfl⟩ := e
    exact rUC_of (cr_sum hc) ⟨_, ns, rfl, SqL.of (by rw [← ints_vals h2 e1]; exact s _ _ h1), h.int s⟩
  | _ => simp [opSum] at e
theorem cd_max (hc : X.calm = true) : CallD1 X (.builtin "max") opMaxL := by
  refine ⟨fun {G H x a d Q} s ra e h => ?_⟩
  cases ra with
  | lst h1 h2 =>
    simp only [opMaxL, Option.map_eq_some_iff, Option.bind_eq_some_iff] at e
    obtain ⟨m, ⟨ns, e1, e2⟩, rfl⟩ := e
    refine rUC_of (cr_max hc) ⟨_, ns, rfl, SqL.of (by rw [← ints_vals h2 e1]; exact s _ _ h1), ?_, fun m' hm hle => ?_⟩
    · cases ns with
      | nil => simp at e2
      | cons _ _ => simp
    · obtain ⟨q1, q2⟩ := List.max?_eq_some_iff.mp e2
      have : m' = m := by
        have a1 := hle m q1
        have a2 := q2 m' hm
        omega
      rw [this]; exact h.int s
  | _ => simp [opMaxL] at e
theorem cd_min (hc : X.calm = true) : CallD1 X (.builtin "min") opMinL := by
  refine ⟨fun {G H x a d Q} s ra e h => ?_⟩
  cases ra with
  | lst h1 h2 =>
    simp only [opMinL, Option.map_eq_some_iff, Option.bind_eq_some_iff] at e
    obtain ⟨m, ⟨ns, e1, e2⟩, rfl⟩ := e
    refine rUC_of (cr_min hc) ⟨_, ns, rfl, SqL.of (by rw [← ints_vals h2 e1]; exact s _ _ h1), ?_, fun m' hm hle => ?_⟩
    · cases ns with
      | nil => simp at e2
      | cons _ _ => simp
    · obtain ⟨q1, q2⟩ := List.min?_eq_some_iff.mp e2
      have : m' = m := by
        have a1 := hle m q1
        have a2 := q2 m' hm
        omega
      rw [this]; exact h.int s
  | _ => simp [opMinL] at e
theorem cd_max2 (hc : X.calm = true) : CallD2 X (.builtin "max") opMax2 := by
  refine ⟨fun {G H x y a b d Q} s ra rb e h => ?_⟩
  cases ra <;> cases rb <;> first | (simp [opMax2] at e; done) | skip
  obtain rfl := Option.some.inj e
  exact rUC_of (call_max2 hc) ⟨_, _, rfl, h.int s⟩
theorem cd_min2 (hc : X.calm = true) : CallD2 X (.builtin "min") opMin2 := by
  refine ⟨fun {G H x y a b d Q} s ra rb e h => ?_⟩
  cases ra <;> cases rb <;> first | (simp [opMin2] at e; done) | skip
  obtain rfl := Option.some.inj e
  exact rUC_of (call_min2 hc) ⟨_, _, rfl, h.int s⟩
theorem cd_abs : CallD1 X (.builtin "abs") opAbs := by
  refine ⟨fun {G H x a d Q} s ra e h => ?_⟩
  cases ra <;> first | (simp [opAbs] at e; done) | skip
  obtain rfl := Option.some.inj e
  exact rUC_of call_abs ⟨_, rfl, h.int s⟩
/-- list(x) of a list or tuple -/
theorem cd_list : CallD1 X (.type "list") opList := by
  refine ⟨fun {G H x a d Q} s ra e h => ?_⟩
  cases ra with
  | lst h1 h2 =>
    obtain rfl := Option.some.inj e
    exact rUC_of call_list_of ⟨_, _, rfl, .inl (SqL.of (s _ _ h1)), h.lst s h2⟩
  | scr h1 h2 =>
    obtain rfl := Option.some.inj e
    exact rUC_of call_list_of ⟨_, _, rfl, .inl (s.seq h1), h.lst s h2⟩
  | tup h1 h2 =>
    obtain rfl := Option.some.inj e
    exact rUC_of call_list_of ⟨_, _, rfl, .inr (Same.tupS s h1), h.lst s h2⟩
  | _ => simp [opList] at e
theorem cd_tuple : CallD1 X (.type "tuple") opTuple := by
  refine ⟨fun {G H x a d Q} s ra e h => ?_⟩
  cases ra with
  | lst h1 h2 =>
    obtain rfl := Option.some.inj e
    exact rUC_of call_tuple_of ⟨_, _, rfl, .inl ⟨SqL.of (s _ _ h1), h.tup s h2⟩⟩
  | tup h1 h2 =>
    obtain rfl := Option.some.inj e
    exact rUC_of call_tuple_of ⟨_, _, rfl, .inr ⟨Same.tupS s h1, h.flat s (.tup h1 h2)⟩⟩
  | _ => simp [opTuple] at e

/-! ### methods of texts -/
theorem joinL_eq (s : List Nat) : ∀ parts : List (List Nat), NV.joinL s parts = TL.joinL s parts
  | [] => rfl
  | [_] => rfl
  | x :: y :: r => by
    show x ++ s ++ NV.joinL s (y :: r) = x ++ (s ++ TL.joinL s (y :: r))
    rw [joinL_eq s (y :: r), List.append_assoc]
theorem join_ofL (s : List Nat) (parts : List (List Nat)) : Txt.join (ofL s) (parts.map ofL) = ofL (NV.joinL s parts) := by
  refine TL.ext_tl ?_
  rw [TL.join_eq, TL.tl_join, joinL_eq]
  have : (parts.map ofL).map TL.tl = parts := by
    rw [List.map_map]
    have : (TL.tl ∘ ofL) = id := by
      funext z
      show (ofL z).cps.toList = z
      exact ofL_cps z
    rw [this, List.map_id]
  rw [this]
  show TL.joinL (ofL s).cps.toList parts = (ofL _).cps.toList
  rw [ofL_cps, ofL_cps]
theorem md_join : MtD1 X "str.join" opJoin := by
  refine ⟨fun {G H x y a b d Q} s ra rb e h => ?_⟩
  have main : ∀ (z : List Nat) (ds : List D) (p : Addr) (ws : List V), Reps X.K G ws ds → (SqL X.K H p ws ∨ SqT X.K H p ws) → x = .str (ofL z) → y = .ref p →
      ((strsD ds).bind fun ys => if (ys.map List.length).sum + ys.length * z.length ≤ line then some (D.str (NV.joinL z ys)) else none) = some d → rUM X "str.join" x [y] H Q := by
    intro z ds p ws rs hq ex ey e
    rw [Option.bind_eq_some_iff] at e
    obtain ⟨ys, e1, e2⟩ := e
    split at e2
    · rename_i hl
      obtain rfl := Option.some.inj e2
      have ew := strs_vals rs e1
      subst ew
      refine rUM_of mt_join ⟨ofL z, p, ys.map ofL, ex, by rw [ey], hq, ?_, ?_⟩
      · rw [List.map_map, List.length_map, ofL_len]
        have : (fun x : Str => x.length) ∘ ofL = List.length := by funext q; exact ofL_len q
        show (ys.map ((fun x : Str => x.length) ∘ ofL)).sum + _ ≤ 16777216
        rw [this]
        exact hl
      · rw [join_ofL]
        exact h.str s
    · cases e2
  cases ra with
  | str z =>
    cases rb with
    | lst h1 h2 => exact main z _ _ _ h2 (.inl (SqL.of (s _ _ h1))) rfl rfl e
    | tup h1 h2 => exact main z _ _ _ h2 (.inr (Same.tupS s h1)) rfl rfl e
    | _ => simp [opJoin] at e
  | _ => simp [opJoin] at e
theorem md_index : MtD1 X "str.index" opIndex := by
  refine ⟨fun {G H x y a b d Q} s ra rb e h => ?_⟩
  cases ra with
  | str z =>
    cases rb with
    | str w =>
      match w, e with
      | [c], e =>
        simp only [opIndex] at e
        split at e
        · rename_i hz
          obtain rfl := Option.some.inj e
          obtain ⟨rest, ho⟩ := occ_index z c hz.2
          exact rUM_of mt_sindex ⟨ofL z, ofL [c], _, rest, rfl, rfl, ho, h.int s⟩
        · cases e
    | _ => simp [opIndex] at e
  | _ => simp [opIndex] at e
theorem md_count : MtD1 X "str.count" opCount := by
  refine ⟨fun {G H x y a b d Q} s ra rb e h => ?_⟩
  cases ra with
  | str z =>
    cases rb with
    | str w =>
      match w, e with
      | [c], e =>
        obtain rfl := Option.some.inj e
        exact rUM_of mt_count ⟨ofL z, ofL [c], rfl, rfl, by rw [count_one]; exact h.int s⟩
    | _ => simp [opCount] at e
  | _ => simp [opCount] at e
theorem starts_ofL (s t : List Nat) : Txt.startswith (ofL s) (ofL t) = t.isPrefixOf s := by
  unfold Txt.startswith
  rw [ofL_len, ofL_len, StrLaws.subAt_eq]
  rw [ofL_cps, ofL_cps, ofL_len, List.drop_zero]
  rw [Bool.eq_iff_iff, Bool.and_eq_true, decide_eq_true_eq, beq_iff_eq, List.isPrefixOf_iff_prefix, List.prefix_iff_eq_take]
  constructor
  · intro ⟨_, q⟩; exact q.symm
  · intro q
    refine ⟨?_, q.symm⟩
    have := congrArg List.length q
    rw [List.length_take] at this
    omega
theorem md_starts : MtD1 X "str.startswith" opStarts := by
  refine ⟨fun {G H x y a b d Q} s ra rb e h => ?_⟩
  cases ra <;> cases rb <;> first | (simp [opStarts] at e; done) | skip
  obtain rfl := Option.some.inj e
  exact rUM_of mt_startswith ⟨_, _, rfl, rfl, by rw [starts_ofL]; exact h.bl s⟩
end
end NV

set_option Elab.async false
set_option linter.all false
set_option maxRecDepth 100000
set_option maxHeartbeats 2000000
/-! Lay6: the rules of expressions. -/
namespace NV
open PySem PySem.Spec PyProof.Rows L2
section
variable {X : Cx} {c : Lv} {a b e : Expr} {es : List Expr} {f h l : Ev} {r : Ea} {pos p apos : Pos} {x : Str}

/-- an operation's end: what is wanted of it, once its operands lie there -/
theorem fin_of {K : PySem.W.Frag} {c : Lv} {π : Nat → Addr} {ρ : Env} {G H : Hp} {σ : St} {o : Option D} {d : D} {Q : VK} (S : SE K π ρ G σ H) (e : o = some d) (k : Po K c π ρ G σ H (out o ρ) (JE K Q)) : Fin K G H Q d := fun w G' H' g r => by
  rw [e] at k
  exact k.grow S g w r
theorem some_of {K : PySem.W.Frag} {c : Lv} {π : Nat → Addr} {ρ : Env} {G H : Hp} {σ : St} {o : Option D} {Q : VK} (k : Po K c π ρ G σ H (out o ρ) (JE K Q)) : ∃ d, o = some d := by
  cases o with
  | some d => exact ⟨d, rfl⟩
  | none => exact False.elim k
theorem t_const {d : D} {v : V} (hr : ∀ G, Rep X.K G v d) {σ : St} {H : Hp} {Q : VK} (q : tE X.K c (eC d) σ H Q) : tC v σ H Q := by
  obtain ⟨π, ρ, G, S, k⟩ := q
  exact k.now S v (hr G)
theorem re_int {i : Int} {j : Nat} : PE X (.Constant (.int i) j pos) (tE X.K c (eC (.int i))) := PE_imp pe_int fun _ _ _ q => t_const (fun _ => .int i) q
theorem re_bl {i : Bool} {j : Nat} : PE X (.Constant (.bool i) j pos) (tE X.K c (eC (.bl i))) := PE_imp pe_bl fun _ _ _ q => t_const (fun _ => .bl i) q
theorem re_non {j : Nat} : PE X (.Constant .none j pos) (tE X.K c (eC .non)) := PE_imp pe_non fun _ _ _ q => t_const (fun _ => .non) q
theorem re_str {z : Str} {s : List Nat} {j : Nat} (hz : z = ofL s) : PE X (.Constant (.str z) j pos) (tE X.K c (eC (.str s))) := by
  subst hz
  exact PE_imp pe_str fun _ _ _ q => t_const (fun _ => .str s) q
/-- a module's constant -/
theorem re_glob {d : D} {v : V} {u : Value} (hg : Gl X x) (hm : X.mg x = some u) (rv : RelV v u) (hr : ∀ G, Rep X.K G v d) (hd : (x == ("__debug__" : Str)) = false := by decide) : PE X (.Name x pos) (tE X.K c (eC d)) :=
  PE_imp (pe_glob hg hm rv hd) fun _ _ _ q => t_const hr q
theorem SE.val {K : PySem.W.Frag} {π : Nat → Addr} {ρ : Env} {G H : Hp} {σ : St} {i : Nat} {d : D} (S : SE K π ρ G σ H) (e : ρ[i]? = some (.v d)) : ∃ w, σ[i]? = some (some w) ∧ Rep K G w d := S.ok i _ e
/-- a name -/
theorem re_V (i : Nat) (hN : X.N[i]? = some x) (hv : Vis X.env.scope x) (hd : (x == ("__debug__" : Str)) = false := by decide) (hcd : (x == ("__classdict__" : Str)) = false := by decide) : PE X (.Name x pos) (tE X.K c (eV i)) := by
  refine PE_imp (pe_var hN hv hd hcd) fun σ H Q q => ?_
  obtain ⟨π, ρ, G, S, k⟩ := q
  unfold eV at k
  cases e : ρ[i]? with
  | none => rw [e] at k; exact False.elim k
  | some s =>
    rw [e] at k
    cases s with
    | v d =>
      obtain ⟨w, e1, r1⟩ := S.val e
      exact ⟨w, e1, k.now S w r1⟩
    | _ => exact False.elim k
theorem re_2 {op : Operator} {g : D → D → Option D} (ho : OpD X (binaryOp op) g) (ha : PE X a (tE X.K c f)) (hb : PE X b (tE X.K c h)) : PE X (.BinOp a op b pos) (tE X.K c (e2 g f h)) := by
  refine PE_imp (pe_op opr_U ha hb) fun σ H Q q => ?_
  obtain ⟨π, ρ, G, S, k⟩ := q
  refine ⟨π, ρ, G, S, (Po.bind k).mono fun d1 ρ1 G1 H1 _ _ S1 k1 w1 r1 => ⟨π, ρ1, G1, S1, (Po.bind k1).mono fun d2 ρ2 G2 H2 s2 _ S2 k2 w2 r2 => ?_⟩⟩
  obtain ⟨d, e⟩ := some_of k2
  exact ho.run S2.sub (r1.mono s2 _) r2 e (fin_of S2 e k2)
theorem t_2 {f h : Ev} {R : V → V → Hp → VK → Prop} {g : D → D → Option D} {σ : St} {H : Hp} {Q : VK} (hR : ∀ {G H : Hp} {x y : V} {a b d : D} {Q : VK}, Same G H → Rep X.K G x a → Rep X.K G y b → g a b = some d → Fin X.K G H Q d → R x y H Q)
    (q : tE X.K c (e2 g f h) σ H Q) : tOp R (tE X.K c f) (tE X.K c h) σ H Q := by
  obtain ⟨π, ρ, G, S, k⟩ := q
  refine ⟨π, ρ, G, S, (Po.bind k).mono fun d1 ρ1 G1 H1 _ _ S1 k1 w1 r1 => ⟨π, ρ1, G1, S1, (Po.bind k1).mono fun d2 ρ2 G2 H2 s2 _ S2 k2 w2 r2 => ?_⟩⟩
  obtain ⟨d, e⟩ := some_of k2
  exact hR S2.sub (r1.mono s2 _) r2 e (fin_of S2 e k2)
theorem re_un {op : UnaryOp} {g : D → Option D} (ho : UnD X (unaryOp op) g) (ha : PE X a (tE X.K c f)) : PE X (.UnaryOp op a pos) (tE X.K c (e1 g f)) := by
  refine PE_imp (pe_un unr_U ha) fun σ H Q q => ?_
  obtain ⟨π, ρ, G, S, k⟩ := q
  refine ⟨π, ρ, G, S, (Po.bind k).mono fun d1 ρ1 G1 H1 _ _ S1 k1 w1 r1 => ?_⟩
  obtain ⟨d, e⟩ := some_of k1
  exact ho.run S1.sub r1 e (fin_of S1 e k1)
theorem re_cmp {op : CmpOp} {g : D → D → Option D} (ho : OpD X (compareOp op) g) (ha : PE X a (tE X.K c f)) (hb : PE X b (tE X.K c h)) (hm : behindInMarks op b = false) : PE X (.Compare a [op] [b] pos) (tE X.K c (e2 g f h)) :=
  PE_imp (pe_cmpR opr_U ha hb hm) fun σ H Q q => t_2 ho.run q
/-- from a value to a test -/
theorem t_test {f : Ev} {te : TE} {σ : St} {H : Hp} {Q : Bool → Hp → Prop} (hR : ∀ Q, tE X.K c f σ H Q → te σ H Q) (q : tT X.K c f σ H Q) : te σ H fun x H' => ∃ k, x = .bl k ∧ Q k H' := by
  obtain ⟨π, ρ, G, S, k⟩ := q
  refine hR _ ⟨π, ρ, G, S, k.mono fun d ρ' G' H' _ _ _ q w r => ?_⟩
  obtain ⟨b, rfl, q⟩ := q
  exact ⟨b, r.bl_iff, q⟩
theorem rt_cmp {op : CmpOp} {g : D → D → Option D} (ho : OpD X (compareOp op) g) (ha : PE X a (tE X.K c f)) (hb : PE X b (tE X.K c h)) (hm : behindInMarks op b = false) : PT X (.Compare a [op] [b] pos) (tT X.K c (e2 g f h)) :=
  PT_imp (pt_cmpR opr_U ha hb hm) fun σ H Q q => t_test (te := tOp (rU2 X (compareOp op)) (tE X.K c f) (tE X.K c h)) (fun Q q => t_2 ho.run q) q
/-- a value as a test -/
theorem rt_val (ha : PE X a (tE X.K c f)) (he : ∀ whole, isTrue a X.env whole = (do let v ← whole; standAt a.pos; holding [v] (truthy v)) := by intro _; rfl) : PT X a (tT X.K c f) :=
  PT_imp (pt_val ha he) fun σ H Q q => t_test (fun Q q => q) q
theorem t_chain {g1 g2 : D → D → Option D} {f1 f2 : Value → Value → Sem Value} (h1 : OpD X f1 g1) (h2 : OpD X f2 g2) {σ : St} {H : Hp} {Q : VK} (q : tE X.K c (eChain g1 g2 f h l) σ H Q) :
    tChain (rU2 X f1) (rU2 X f2) (tE X.K c f) (tE X.K c h) (tE X.K c l) σ H Q := by
  obtain ⟨π, ρ, G, S, k⟩ := q
  refine ⟨π, ρ, G, S, (Po.bind k).mono fun d1 ρ1 G1 H1 _ _ S1 k1 w1 r1 => ⟨π, ρ1, G1, S1, (Po.bind k1).mono fun d2 ρ2 G2 H2 s2 _ S2 k2 w2 r2 => ?_⟩⟩
  have k3 := Po.bind k2
  cases e : g1 d1 d2 with
  | none => rw [e] at k3; exact False.elim k3
  | some z =>
    rw [e] at k3
    refine h1.run S2.sub (r1.mono s2 _) r2 e fun w G3 H3 gr rz => ?_
    have S3 := (S2.grow gr).1
    have k4 := k3.grow S2 gr
    cases z with
    | bl kb =>
      obtain rfl := rz.bl_iff
      refine ⟨kb, rfl, ?_⟩
      cases kb with
      | true =>
        rw [if_pos rfl]
        refine ⟨π, ρ2, G3, S3, (Po.bind k4).mono fun d4 ρ4 G4 H4 s4 _ S4 k5 w4 r4 => ?_⟩
        obtain ⟨d, e5⟩ := some_of k5
        exact h2.run S4.sub ((r2.mono gr.g _).mono s4 _) r4 e5 (fin_of S4 e5 k5)
      | false =>
        rw [if_neg Bool.false_ne_true]
        exact k4.now S3 _ (.bl false)
    | _ => exact False.elim k4
theorem re_chain {op1 op2 : CmpOp} {g1 g2 : D → D → Option D} {d : Expr} (h1 : OpD X (compareOp op1) g1) (h2 : OpD X (compareOp op2) g2) (ha : PE X a (tE X.K c f)) (hb : PE X b (tE X.K c h)) (hd : PE X d (tE X.K c l))
    (hm : lastMarks [op1, op2] [b, d] = false := by with_unfolding_all rfl) : PE X (.Compare a [op1, op2] [b, d] pos) (tE X.K c (eChain g1 g2 f h l)) :=
  PE_imp (pe_chain opr_U opr_U ha hb hd hm) fun σ H Q q => t_chain h1 h2 q
theorem rt_chain {op1 op2 : CmpOp} {g1 g2 : D → D → Option D} {d : Expr} (h1 : OpD X (compareOp op1) g1) (h2 : OpD X (compareOp op2) g2) (ha : PE X a (tE X.K c f)) (hb : PE X b (tE X.K c h)) (hd : PE X d (tE X.K c l))
    (hm : lastMarks [op1, op2] [b, d] = false := by with_unfolding_all rfl) : PT X (.Compare a [op1, op2] [b, d] pos) (tT X.K c (eChain g1 g2 f h l)) :=
  PT_imp (pt_chain opr_U opr_U ha hb hd hm) fun σ H Q q => t_test (te := tChain _ _ (tE X.K c f) (tE X.K c h) (tE X.K c l)) (fun Q q => t_chain h1 h2 q) q
/-! and, or, not -/
theorem re_one {op : BoolOp} (ha : PE X a (tE X.K c f)) : PE X (.BoolOp op [a] pos) (tE X.K c f) := pe_one ha
theorem re_and {rest : List Expr} (ha : PE X a (tE X.K c f)) (hb : PE X (.BoolOp .And (b :: rest) pos) (tE X.K c h)) : PE X (.BoolOp .And (a :: b :: rest) pos) (tE X.K c (eAnd f h)) := by
  refine PE_imp (pe_and ha hb) fun σ H Q q => ?_
  obtain ⟨π, ρ, G, S, k⟩ := q
  refine ⟨π, ρ, G, S, (Po.bind k).mono fun d1 ρ1 G1 H1 _ _ S1 k1 w1 r1 => ?_⟩
  cases d1 with
  | bl z =>
    refine ⟨z, r1.bl_iff, ?_⟩
    cases z with
    | true => exact iteT ⟨π, ρ1, G1, S1, k1⟩
    | false => exact iteF (k1.now S1 _ (.bl false))
  | _ => exact False.elim k1
theorem re_or {rest : List Expr} (ha : PE X a (tE X.K c f)) (hb : PE X (.BoolOp .Or (b :: rest) pos) (tE X.K c h)) : PE X (.BoolOp .Or (a :: b :: rest) pos) (tE X.K c (eOr f h)) := by
  refine PE_imp (pe_or ha hb) fun σ H Q q => ?_
  obtain ⟨π, ρ, G, S, k⟩ := q
  refine ⟨π, ρ, G, S, (Po.bind k).mono fun d1 ρ1 G1 H1 _ _ S1 k1 w1 r1 => ?_⟩
  cases d1 with
  | bl z =>
    refine ⟨z, r1.bl_iff, ?_⟩
    cases z with
    | true => exact iteT (k1.now S1 _ (.bl true))
    | false => exact iteF ⟨π, ρ1, G1, S1, k1⟩
  | _ => exact False.elim k1
theorem re_not (ha : PE X a (tE X.K c f)) : PE X (.UnaryOp .Not a pos) (tE X.K c (e1 opNot f)) := by
  refine PE_imp (pe_not ha) fun σ H Q q => ?_
  obtain ⟨π, ρ, G, S, k⟩ := q
  refine ⟨π, ρ, G, S, (Po.bind k).mono fun d1 ρ1 G1 H1 _ _ S1 k1 w1 r1 => ?_⟩
  cases d1 with
  | bl z => exact ⟨z, r1.bl_iff, k1.now S1 _ (.bl _)⟩
  | _ => exact False.elim k1
theorem rt_not (ha : PT X a (tT X.K c f)) : PT X (.UnaryOp .Not a pos) (tT X.K c (e1 opNot f)) := by
  refine PT_imp (pt_not ha) fun σ H Q q => ?_
  obtain ⟨π, ρ, G, S, k⟩ := q
  refine ⟨π, ρ, G, S, (Po.bind k).mono fun d1 ρ1 G1 H1 _ _ S1 k1 => ?_⟩
  cases d1 with
  | bl z =>
    obtain ⟨b, e, q⟩ := k1.now S1
    obtain rfl := D.bl.inj e
    exact ⟨z, rfl, q⟩
  | _ => exact False.elim k1
theorem rw_and1 (ha : PT X a (tT X.K c f)) : PW X (.BoolOp .And [a] pos) (tT X.K c f) := pw_and1 ha
theorem rw_or1 (ha : PT X a (tT X.K c f)) : PW X (.BoolOp .Or [a] pos) (tT X.K c f) := pw_or1 ha
theorem rw_and {rest : List Expr} (ha : PT X a (tT X.K c f)) (hb : PW X (.BoolOp .And (b :: rest) pos) (tT X.K c h)) : PW X (.BoolOp .And (a :: b :: rest) pos) (tT X.K c (eAnd f h)) := by
  refine PW_imp (pw_and ha hb) fun σ H Q q => ?_
  obtain ⟨π, ρ, G, S, k⟩ := q
  refine ⟨π, ρ, G, S, (Po.bind k).mono fun d1 ρ1 G1 H1 _ _ S1 k1 => ?_⟩
  cases d1 with
  | bl z =>
    refine ⟨z, rfl, ?_⟩
    cases z with
    | true => exact iteT ⟨π, ρ1, G1, S1, k1⟩
    | false =>
      obtain ⟨b, e, q⟩ := k1.now S1
      obtain rfl := D.bl.inj e
      exact iteF q
  | _ => exact False.elim k1
theorem rw_or {rest : List Expr} (ha : PT X a (tT X.K c f)) (hb : PW X (.BoolOp .Or (b :: rest) pos) (tT X.K c h)) : PW X (.BoolOp .Or (a :: b :: rest) pos) (tT X.K c (eOr f h)) := by
  refine PW_imp (pw_or ha hb) fun σ H Q q => ?_
  obtain ⟨π, ρ, G, S, k⟩ := q
  refine ⟨π, ρ, G, S, (Po.bind k).mono fun d1 ρ1 G1 H1 _ _ S1 k1 => ?_⟩
  cases d1 with
  | bl z =>
    refine ⟨z, rfl, ?_⟩
    cases z with
    | true =>
      obtain ⟨b, e, q⟩ := k1.now S1
      obtain rfl := D.bl.inj e
      exact iteT q
    | false => exact iteF ⟨π, ρ1, G1, S1, k1⟩
  | _ => exact False.elim k1
theorem rt_w (h : PW X a (tT X.K c f)) : PT X a (tT X.K c f) := h.pt
theorem re_if {d : Expr} (hc : PT X d (tT X.K c l)) (ha : PE X a (tE X.K c f)) (hb : PE X b (tE X.K c h)) : PE X (.IfExp d a b pos) (tE X.K c (eIf l f h)) := by
  refine PE_imp (pe_ifExp hc ha hb) fun σ H Q q => ?_
  obtain ⟨π, ρ, G, S, k⟩ := q
  refine ⟨π, ρ, G, S, (Po.bind k).mono fun d1 ρ1 G1 H1 _ _ S1 k1 => ?_⟩
  cases d1 with
  | bl z =>
    refine ⟨z, rfl, ?_⟩
    cases z with
    | true => exact iteT ⟨π, ρ1, G1, S1, k1⟩
    | false => exact iteF ⟨π, ρ1, G1, S1, k1⟩
  | _ => exact False.elim k1
/-! subscripts -/
theorem re_ix (hu : X.A.units + 1 < cLine) (ha : PE X a (tE X.K c f)) (hb : PE X b (tE X.K c h)) (hs : PlainIx b := by exact fun _ _ => rfl) : PE X (.Subscript a b pos) (tE X.K c (e2 opIx f h)) :=
  PE_imp (pe_ix ixr_U ha hb hs) fun σ H Q q => t_2 (ixd hu).run q
def tP (K : PySem.W.Frag) (c : Lv) (f : Option Ev) : TO := fun σ H Q => ∃ π ρ G, SE K π ρ G σ H ∧ Po K c π ρ G σ H (pt f ρ) fun o _ _ H' => Q o H'
theorem rp_none : L2.PO X none (tP X.K c none) := ⟨fun pins s σ H Q I hw => po_none.run pins s σ H Q I (by
  obtain ⟨π, ρ, G, S, k⟩ := hw
  exact k.now S)⟩
theorem rp_some (ha : PE X a (tE X.K c f)) : L2.PO X (some a) (tP X.K c (some f)) := ⟨fun pins s σ H Q I hw => (po_some ha).run pins s σ H Q I (by
  obtain ⟨π, ρ, G, S, k⟩ := hw
  refine ⟨π, ρ, G, S, (Po.bind k).mono fun d1 ρ1 G1 H1 _ _ S1 k1 w1 r1 => ?_⟩
  cases d1 with
  | int i => exact ⟨i, r1.int_iff, k1.now S1⟩
  | _ => exact False.elim k1)⟩
theorem re_cut {lo hi : Option Expr} {l1 h1 : Option Ev} {p2 : Pos} (ha : PE X a (tE X.K c f)) (hl : L2.PO X lo (tP X.K c l1)) (hh : L2.PO X hi (tP X.K c h1)) : PE X (.Subscript a (.Slice lo hi none p2) pos) (tE X.K c (eCut f l1 h1)) := by
  refine PE_imp (pe_slice slr_U ha hl hh) fun σ H Q q => ?_
  obtain ⟨π, ρ, G, S, k⟩ := q
  refine ⟨π, ρ, G, S, (Po.bind k).mono fun d1 ρ1 G1 H1 _ _ S1 k1 w1 r1 => ⟨π, ρ1, G1, S1, (Po.bind k1).mono fun o2 ρ2 G2 H2 s2 _ S2 k2 => ⟨π, ρ2, G2, S2, (Po.bind k2).mono fun o3 ρ3 G3 H3 s3 _ S3 k3 => ?_⟩⟩⟩
  obtain ⟨d, e⟩ := some_of k3
  exact sld.run S3.sub ((r1.mono s2 _).mono s3 _) e (fin_of S3 e k3)
/-! displays -/
theorem ra_nil : PA X [] (tA X.K c aNil) := ⟨fun pos pins s σ H Q I hw => pa_nil.run pos pins s σ H Q I (by
  obtain ⟨π, ρ, G, S, k⟩ := hw
  exact k.now S [] .nil)⟩
theorem ra_cons (ha : PE X a (tE X.K c f)) (hr : PA X es (tA X.K c r)) (hs : starEach (a :: es) X.env = (false, eval a X.env) :: starEach es X.env := by rfl) : PA X (a :: es) (tA X.K c (aCons f r)) := ⟨fun pos pins s σ H Q I hw => (pa_cons ha hr hs).run pos pins s σ H Q I (by
  obtain ⟨π, ρ, G, S, k⟩ := hw
  refine ⟨π, ρ, G, S, (Po.bind k).mono fun d1 ρ1 G1 H1 _ _ S1 k1 w1 r1 => ⟨π, ρ1, G1, S1, (Po.bind k1).mono fun d2 ρ2 G2 H2 s2 _ S2 k2 w2 r2 => ?_⟩⟩
  exact k2.now S2 (w1 :: w2) (.cons (r1.mono s2 _) r2))⟩
theorem re_tup {x1 : Nat} (hr : PA X es (tA X.K c r)) : PE X (.Tuple es x1 pos) (tE X.K c (eTup r)) := by
  refine PE_imp (pe_tup hr) fun σ H Q q => ?_
  obtain ⟨π, ρ, G, S, k⟩ := q
  refine ⟨π, ρ, G, S, (Po.bind k).mono fun d1 ρ1 G1 H1 _ _ S1 k1 w1 r1 => ?_⟩
  split at k1
  · rename_i hl
    refine ⟨by rw [r1.length, ← line_eq]; exact hl, ?_⟩
    exact Fin.tup S1.sub r1 fun w G' H' g rw' => k1.grow S1 g w rw'
  · exact False.elim k1
theorem re_lst (hr : PA X es (tA X.K c r)) : PE X (.List es pos) (tE X.K c (eLst r)) := by
  refine PE_imp (pe_lst hr) fun σ H Q q => ?_
  obtain ⟨π, ρ, G, S, k⟩ := q
  refine ⟨π, ρ, G, S, (Po.bind k).mono fun d1 ρ1 G1 H1 _ _ S1 k1 w1 r1 => ?_⟩
  split at k1
  · rename_i hl
    refine ⟨by rw [r1.length, ← line_eq]; exact hl, ?_⟩
    exact Fin.lst S1.sub r1 fun w G' H' g rw' => k1.grow S1 g w rw'
  · exact False.elim k1
/-! built-ins -/
def tPE1 (f : Ev) : Ea := fun ρ => (f ρ).bind fun a ρ => .ok [a] ρ
theorem t_cb1 {fv : Value} {g : D → Option D} (cd : CallD1 X fv g) {σ : St} {H : Hp} {Q : VK} (q : tE X.K c (e1 g f) σ H Q) : tCB (rUC X fv) (tCons (tE X.K c f) tNil) σ H Q := by
  obtain ⟨π, ρ, G, S, k⟩ := q
  refine ⟨π, ρ, G, S, (Po.bind k).mono fun d1 ρ1 G1 H1 _ _ S1 k1 w1 r1 => ?_⟩
  obtain ⟨d, e⟩ := some_of k1
  exact cd.run S1.sub r1 e (fin_of S1 e k1)
theorem t_cb2 {fv : Value} {g : D → D → Option D} (cd : CallD2 X fv g) {σ : St} {H : Hp} {Q : VK} (q : tE X.K c (e2 g f h) σ H Q) : tCB (rUC X fv) (tCons (tE X.K c f) (tCons (tE X.K c h) tNil)) σ H Q := by
  obtain ⟨π, ρ, G, S, k⟩ := q
  refine ⟨π, ρ, G, S, (Po.bind k).mono fun d1 ρ1 G1 H1 _ _ S1 k1 w1 r1 => ⟨π, ρ1, G1, S1, (Po.bind k1).mono fun d2 ρ2 G2 H2 s2 _ S2 k2 w2 r2 => ?_⟩⟩
  obtain ⟨d, e⟩ := some_of k2
  exact cd.run S2.sub (r1.mono s2 _) r2 e (fin_of S2 e k2)
theorem re_b1 {id : String} {g : D → Option D} (cd : CallD1 X (.builtin id) g) (hg : Gl X x) (hm : X.mg x = none) (hv : bootBuiltins x = some (.builtin id)) (ha : PE X a (tE X.K c f)) (hn : x ≠ "__name__" := by decide) (hdb : (x == ("__debug__" : Str)) = false := by decide)
    (hs : starEach [a] X.env = (false, eval a X.env) :: starEach [] X.env := by rfl) : PE X (.Call (.Name x p) [a] [] pos) (tE X.K c (e1 g f)) :=
  PE_imp (pe_callB callr_U hg hm hv (pa_cons ha pa_nil hs) hn hdb hs rfl) fun σ H Q q => t_cb1 cd q
theorem re_b2 {id : String} {g : D → D → Option D} (cd : CallD2 X (.builtin id) g) (hg : Gl X x) (hm : X.mg x = none) (hv : bootBuiltins x = some (.builtin id)) (ha : PE X a (tE X.K c f)) (hb : PE X b (tE X.K c h)) (hn : x ≠ "__name__" := by decide) (hdb : (x == ("__debug__" : Str)) = false := by decide)
    (hs : starEach [a, b] X.env = (false, eval a X.env) :: starEach [b] X.env := by rfl) (hs2 : starEach [b] X.env = (false, eval b X.env) :: starEach [] X.env := by rfl) (hpl : (backTo pos (starEach [b] X.env)).any (·.1) = false := by rfl) : PE X (.Call (.Name x p) [a, b] [] pos) (tE X.K c (e2 g f h)) :=
  PE_imp (pe_callB callr_U hg hm hv (pa_cons ha (pa_cons hb pa_nil hs2) hs) hn hdb hs hpl) fun σ H Q q => t_cb2 cd q
theorem re_t1 {id : String} {g : D → Option D} (cd : CallD1 X (.type id) g) (hg : Gl X x) (hm : X.mg x = none) (hv : bootBuiltins x = some (.type id)) (ha : PE X a (tE X.K c f)) (hn : x ≠ "__name__" := by decide) (hdb : (x == ("__debug__" : Str)) = false := by decide)
    (hs : starEach [a] X.env = (false, eval a X.env) :: starEach [] X.env := by rfl) : PE X (.Call (.Name x p) [a] [] pos) (tE X.K c (e1 g f)) :=
  PE_imp (pe_callTy callr_U hg hm hv (pa_cons ha pa_nil hs) hn hdb hs rfl) fun σ H Q q => t_cb1 cd q
/-- s.m(e), s a text -/
theorem re_m1 {id : String} {name : Str} {g : D → D → Option D} (slot : Slot "str" name id) (ty : typeOf (.builtin id) = pure (.type "method_descriptor")) (md : MtD1 X id g) (ha : PE X a (tE X.K c f)) (hb : PE X b (tE X.K c h))
    (hs : starEach [b] X.env = [(false, eval b X.env)] := by rfl) (hbase : attributeBase a name X.env (eval a X.env) = eval a X.env := by rfl) (hline : (apos.endLine == pos.line) = true := by rfl) :
    PE X (.Call (.Attribute a name apos) [b] [] pos) (tE X.K c (eM g f h)) := by
  refine PE_imp (pe_m1 slot ty mtr_U ha hb hs hbase hline) fun σ H Q q => ?_
  obtain ⟨π, ρ, G, S, k⟩ := q
  refine ⟨π, ρ, G, S, (Po.bind k).mono fun d1 ρ1 G1 H1 _ _ S1 k1 w1 r1 => ?_⟩
  cases d1 with
  | str s =>
    refine ⟨⟨_, r1.str_iff⟩, π, ρ1, G1, S1, (Po.bind k1).mono fun d2 ρ2 G2 H2 s2 _ S2 k2 w2 r2 => ?_⟩
    obtain ⟨d, e⟩ := some_of k2
    exact md.run S2.sub (r1.mono s2 _) r2 e (fin_of S2 e k2)
  | _ => exact False.elim k1
end
end NV

set_option Elab.async false
set_option linter.all false
set_option maxRecDepth 100000
set_option maxHeartbeats 2000000
/-! Lay7: environments that turn; statements. -/
namespace NV
open PySem PySem.Spec PyProof.Rows L2
section
variable {K : PySem.W.Frag} {π : Nat → Addr} {ρ ρ1 ρ' : Env} {G G1 G' : Hp} {σ σ1 σ' : St} {H H1 H' : Hp} {c : Lv} {α β : Type}
theorem RR.back {r : Sl} {w : V} (e : Ext ρ σ G H ρ1 σ1 G1 H1) (h : RR K ρ1 σ1 H1 ρ' σ' G' H' r w) : RR K ρ σ H ρ' σ' G' H' r w := by
  cases r with
  | v d => exact h
  | o d =>
    obtain ⟨p, h1, h2, h3, h4, h5⟩ := h
    refine ⟨p, h1, h2, h3, h4, ?_⟩
    cases q : H p with
    | none => exact .inl rfl
    | some o =>
      by_cases n : Ownd ρ σ p
      · exact .inr n
      · obtain ⟨a, b, _⟩ := e p o q n
        rcases h5 with z | z
        · rw [a] at z; cases z
        · exact absurd z b
  | _ => exact h
theorem PoS.step {r : Res Fl} {D : Ends} (s : Same G G1) (e : Ext ρ σ G H ρ1 σ1 G1 H1) (h : PoS K c π ρ G σ H r D) : PoS K c π ρ1 G1 σ1 H1 r D := by
  cases r with
  | ok b ρ' =>
    cases b with
    | nx => exact fun σ' G' H' s' e' S => h σ' G' H' (s.trans s') (e.trans e') S
    | brk => exact fun σ' G' H' s' e' S => h σ' G' H' (s.trans s') (e.trans e') S
    | cnt => exact fun σ' G' H' s' e' S => h σ' G' H' (s.trans s') (e.trans e') S
    | ret r => exact fun w σ' G' H' s' e' S q => h w σ' G' H' (s.trans s') (e.trans e') S (q.back e)
  | rz x ρ' => exact fun cls d σ' G' H' s' e' S => h cls d σ' G' H' (s.trans s') (e.trans e') S
  | st => exact h
theorem PoS.bind {r : Res α} {k : α → Env → Res Fl} {D : Ends} (h : PoS K c π ρ G σ H (r.bind k) D) : Po K c π ρ G σ H r fun a ρ1 G1 H1 => PoS K c π ρ1 G1 σ H1 (k a ρ1) D := by
  cases r with
  | ok b ρ' => exact fun G' H' s' e' S => PoS.step s' e' h
  | rz x ρ' => exact fun cls d G' H' s' e' S z => h cls d σ G' H' s' e' S z
  | st => exact h
theorem getset {ρ : List Sl} {i j : Nat} {s t : Sl} (h : (ρ.set i s)[j]? = some t) : (j = i ∧ i < ρ.length ∧ t = s) ∨ (j ≠ i ∧ ρ[j]? = some t) := by
  by_cases e : i = j
  · subst e
    by_cases hl : i < ρ.length
    · rw [List.getElem?_set_self hl] at h
      exact .inl ⟨rfl, hl, (Option.some.inj h).symm⟩
    · rw [List.getElem?_eq_none (by simpa using hl)] at h
      cases h
  · rw [List.getElem?_set_ne e] at h
    exact .inr ⟨fun z => e z.symm, h⟩
/-- a slot forgotten -/
theorem SE.kill (S : SE K π ρ G σ H) (i : Nat) : SE K π (ρ.set i .un) G σ H ∧ Ext ρ σ G H (ρ.set i .un) σ G H := by
  refine ⟨⟨S.sub, by rw [List.length_set]; exact S.len, fun j s h => ?_, fun j k b s t h1 h2 o1 o2 => ?_⟩, fun b o h n => ⟨h, fun ⟨j, s, h1, o1, h2⟩ => ?_, fun z => z⟩⟩
  · rcases getset h with ⟨_, _, rfl⟩ | ⟨_, h⟩
    · trivial
    · exact S.ok j s h
  · rcases getset h1 with ⟨_, _, rfl⟩ | ⟨_, h1⟩
    · cases o1
    · rcases getset h2 with ⟨_, _, rfl⟩ | ⟨_, h2⟩
      · cases o2
      · exact S.inj j k b s t h1 h2 o1 o2
  · rcases getset h1 with ⟨_, _, rfl⟩ | ⟨_, h1⟩
    · cases o1
    · exact n ⟨j, s, h1, o1, h2⟩
theorem SE.wipe (S : SE K π ρ G σ H) : ∀ ks : List Nat, SE K π (wipeE ρ ks) G σ H ∧ Ext ρ σ G H (wipeE ρ ks) σ G H
  | [] => ⟨S, Ext.refl⟩
  | i :: r => by
    obtain ⟨S1, e1⟩ := SE.wipe S r
    obtain ⟨S2, e2⟩ := S1.kill i
    exact ⟨S2, e1.trans e2⟩
theorem sset {σ : St} {i j : Nat} {w : V} (h : j ≠ i) : (σ.set i (some w))[j]? = σ[j]? := by
  rw [List.getElem?_set_ne (Ne.symm h)]
/-- a value stored -/
theorem SE.set (S : SE K π ρ G σ H) {d : D} {w : V} (r : Rep K G w d) (i : Nat) : SE K π (ρ.set i (.v d)) G (σ.set i (some w)) H ∧ Ext ρ σ G H (ρ.set i (.v d)) (σ.set i (some w)) G H := by
  refine ⟨⟨S.sub, by rw [List.length_set, List.length_set]; exact S.len, fun j s h => ?_, fun j k b s t h1 h2 o1 o2 q1 q2 => ?_⟩, fun b o h n => ⟨h, fun ⟨j, s, h1, o1, h2⟩ => ?_, fun z => z⟩⟩
  · rcases getset h with ⟨rfl, hl, rfl⟩ | ⟨ne, h⟩
    · exact ⟨w, by rw [List.getElem?_set_self (by rw [← S.len]; exact hl)], r⟩
    · rw [sset ne]; exact S.ok j s h
  · rcases getset h1 with ⟨_, _, rfl⟩ | ⟨n1, h1⟩
    · cases o1
    · rcases getset h2 with ⟨_, _, rfl⟩ | ⟨n2, h2⟩
      · cases o2
      · rw [sset n1] at q1
        rw [sset n2] at q2
        exact S.inj j k b s t h1 h2 o1 o2 q1 q2
  · rcases getset h1 with ⟨_, _, rfl⟩ | ⟨n1, h1⟩
    · cases o1
    · rw [sset n1] at h2
      exact n ⟨j, s, h1, o1, h2⟩
/-- an own object stored: it is nobody else's -/
theorem SE.setO (S : SE K π ρ G σ H) {d : D} {p : Addr} (g : G p = none) (o : Own K G H p d) (n : ¬ Ownd ρ σ p) (i : Nat) : SE K π (ρ.set i (.o d)) G (σ.set i (some (.ref p))) H := by
  refine ⟨S.sub, by rw [List.length_set, List.length_set]; exact S.len, fun j s h => ?_, fun j k b s t h1 h2 o1 o2 q1 q2 => ?_⟩
  · rcases getset h with ⟨rfl, hl, rfl⟩ | ⟨ne, h⟩
    · exact ⟨p, by rw [List.getElem?_set_self (by rw [← S.len]; exact hl)], g, o⟩
    · rw [sset ne]; exact S.ok j s h
  · rcases getset h1 with ⟨e1, l1, rfl⟩ | ⟨n1, h1⟩
    · rcases getset h2 with ⟨e2, _, rfl⟩ | ⟨n2, h2⟩
      · rw [e1, e2]
      · exfalso
        rw [e1, List.getElem?_set_self (by rw [← S.len]; exact l1)] at q1
        have eb : p = b := V.ref.inj (Option.some.inj (Option.some.inj q1))
        rw [sset n2] at q2
        exact n ⟨k, t, h2, o2, by rw [eb]; exact q2⟩
    · rcases getset h2 with ⟨e2, l2, rfl⟩ | ⟨n2, h2⟩
      · exfalso
        rw [e2, List.getElem?_set_self (by rw [← S.len]; exact l2)] at q2
        have eb : p = b := V.ref.inj (Option.some.inj (Option.some.inj q2))
        rw [sset n1] at q1
        exact n ⟨j, s, h1, o1, by rw [eb]; exact q1⟩
      · rw [sset n1] at q1
        rw [sset n2] at q2
        exact S.inj j k b s t h1 h2 o1 o2 q1 q2
theorem Ownd.set {p b : Addr} {i : Nat} {s : Sl} (S : ρ.length = σ.length) (h : Ownd (ρ.set i s) (σ.set i (some (.ref p))) b) : b = p ∨ Ownd ρ σ b := by
  obtain ⟨j, t, h1, o1, h2⟩ := h
  rcases getset h1 with ⟨e1, l1, rfl⟩ | ⟨n1, h1⟩
  · rw [e1, List.getElem?_set_self (by rw [← S]; exact l1)] at h2
    exact .inl (V.ref.inj (Option.some.inj (Option.some.inj h2))).symm
  · rw [sset n1] at h2
    exact .inr ⟨j, t, h1, o1, h2⟩
/-- what comes of an own-capable expression, stored -/
theorem SE.setR {ρ0 : Env} {σ0 : St} {G0 H0 : Hp} (S : SE K π ρ G σ H) {r : Sl} {w : V} (q : RR K ρ0 σ0 H0 ρ σ G H r w) (e : Ext ρ0 σ0 G0 H0 ρ σ G H) (i : Nat) : SE K π (ρ.set i r) G (σ.set i (some w)) H ∧ Ext ρ0 σ0 G0 H0 (ρ.set i r) (σ.set i (some w)) G H := by
  cases r with
  | v d =>
    obtain ⟨S1, e1⟩ := S.set (d := d) q i
    exact ⟨S1, e.trans e1⟩
  | o d =>
    obtain ⟨p, rfl, h1, h2, h3, h4⟩ := q
    refine ⟨S.setO h1 h2 h3 i, fun b o hb n => ?_⟩
    obtain ⟨a, b', g⟩ := e b o hb n
    refine ⟨a, fun z => ?_, g⟩
    rcases Ownd.set S.len z with z | z
    · subst z
      rcases h4 with z | z
      · rw [hb] at z; cases z
      · exact n z
    · exact b' z
  | un => exact False.elim q
  | io _ _ => exact False.elim q
end

section
variable {X : Cx} {c : Lv} {a b e : Expr} {es : List Expr} {f h l : Ev} {r : Ea} {pos p apos : Pos} {x : Str} {st : Stmt} {sts : List Stmt} {A B : Es}
theorem PSs_imp {t t' : TS} (h : PSs X sts t) (m : ∀ D σ H, t' D σ H → t D σ H) : PSs X sts t' := ⟨fun pins s σ H D I hw => h.run pins s σ H D I (m D σ H hw)⟩
theorem rss_nil : PSs X [] (tS X.K c sNx) := PSs_imp pss_nil fun D σ H q => by
  obtain ⟨π, ρ, G, S, k⟩ := q
  exact k σ G H (Same.refl _) Ext.refl S
theorem rss_cons (ha : PS X st (tS X.K c A)) (hb : PSs X sts (tS X.K c B)) : PSs X (st :: sts) (tS X.K c (sSq A B)) := PSs_imp (pss_cons ha hb) fun D σ H q => by
  obtain ⟨π, ρ, G, S, k⟩ := q
  refine ⟨π, ρ, G, S, ?_⟩
  unfold sSq at k
  cases z : A ρ with
  | ok fl ρ' =>
    rw [z] at k
    cases fl with
    | nx => exact fun σ' G' H' s' e' S' => ⟨π, ρ', G', S', PoS.step s' e' k⟩
    | brk => exact k
    | cnt => exact k
    | ret r => exact k
  | rz x ρ' => rw [z] at k; exact k
  | st => rw [z] at k; exact k
theorem rss_one (ha : PS X st (tS X.K c A)) : PSs X [st] (tS X.K c A) := pss_one ha
theorem rs_pass : PS X (.Pass pos) (tS X.K c sNx) := PS_imp ps_pass fun D σ H q => by
  obtain ⟨π, ρ, G, S, k⟩ := q
  exact k σ G H (Same.refl _) Ext.refl S
theorem rs_break : PS X (.Break pos) (tS X.K c sBrk) := PS_imp ps_break fun D σ H q => by
  obtain ⟨π, ρ, G, S, k⟩ := q
  exact k σ G H (Same.refl _) Ext.refl S
theorem rs_cont : PS X (.Continue pos) (tS X.K c sCnt) := PS_imp ps_continue fun D σ H q => by
  obtain ⟨π, ρ, G, S, k⟩ := q
  exact k σ G H (Same.refl _) Ext.refl S
theorem rs_never : PS X st (tS X.K c sSt) := PS_imp ps_never fun D σ H q => by
  obtain ⟨π, ρ, G, S, k⟩ := q
  exact k
theorem rs_set (i : Nat) {pos' : Pos} (hN : X.N.Nodup) (hi : X.N[i]? = some x) (hx : Loc X.env.scope x) (he : PE X e (tE X.K c f)) (hs : swapsWith e (some (.Name x pos')) pos.line X.env = pure false := by rfl) (hf : X.fn x = true ∨ X.env.scope.names.lookup x = some .local := by first | exact .inl rfl | exact .inr rfl | assumption) :
    PS X (.Assign [.Name x pos'] e pos) (tS X.K c (sSet i f)) := PS_imp (ps_set hN hi hx he hs hf) fun D σ H q => by
  obtain ⟨π, ρ, G, S, k⟩ := q
  refine ⟨π, ρ, G, S, (PoS.bind k).mono fun d1 ρ1 G1 H1 _ _ S1 k1 w1 r1 => ?_⟩
  obtain ⟨S2, e2⟩ := S1.set r1 i
  exact k1 _ G1 H1 (Same.refl _) e2 S2
/-- a list that stays the def's own -/
theorem rs_own (i : Nat) {f : Eo} {pos' : Pos} (hN : X.N.Nodup) (hi : X.N[i]? = some x) (hx : Loc X.env.scope x) (he : PE X e (tO X.K c f)) (hs : swapsWith e (some (.Name x pos')) pos.line X.env = pure false := by rfl) (hf : X.fn x = true ∨ X.env.scope.names.lookup x = some .local := by first | exact .inl rfl | exact .inr rfl | assumption) :
    PS X (.Assign [.Name x pos'] e pos) (tS X.K c (sOwn i f)) := PS_imp (ps_set hN hi hx he hs hf) fun D σ H q => by
  obtain ⟨π, ρ, G, S, k⟩ := q
  refine ⟨π, ρ, G, S, ?_⟩
  unfold sOwn at k
  cases z : f ρ with
  | ok r ρ' =>
    rw [z] at k
    intro G' H' s' e' S' w rr
    obtain ⟨S2, e2⟩ := S'.setR rr e' i
    exact k _ G' H' s' e2 S2
  | rz x ρ' => rw [z] at k; exact fun cls d G' H' s' e' S' z => k cls d σ G' H' s' e' S' z
  | st => rw [z] at k; exact k
theorem rs_ret (he : PE X e (tE X.K c f)) : PS X (.Return (some e) pos) (tS X.K c (sRet f)) := PS_imp (ps_ret he) fun D σ H q => by
  obtain ⟨π, ρ, G, S, k⟩ := q
  refine ⟨π, ρ, G, S, (PoS.bind k).mono fun d1 ρ1 G1 H1 _ _ S1 k1 w1 r1 => ?_⟩
  exact k1 w1 σ G1 H1 (Same.refl _) Ext.refl S1 r1
theorem rs_retO {f : Eo} (he : PE X e (tO X.K c f)) : PS X (.Return (some e) pos) (tS X.K c (sRetO f)) := PS_imp (ps_ret he) fun D σ H q => by
  obtain ⟨π, ρ, G, S, k⟩ := q
  refine ⟨π, ρ, G, S, ?_⟩
  unfold sRetO at k
  cases z : f ρ with
  | ok r ρ' =>
    rw [z] at k
    exact fun G' H' s' e' S' w rr => k w σ G' H' s' e' S' rr
  | rz x ρ' => rw [z] at k; exact fun cls d G' H' s' e' S' z => k cls d σ G' H' s' e' S' z
  | st => rw [z] at k; exact k
/-- return x, x the def's own -/
theorem rs_retN (i : Nat) (hN : X.N[i]? = some x) (hv : Vis X.env.scope x) (hd : (x == ("__debug__" : Str)) = false := by decide) (hcd : (x == ("__classdict__" : Str)) = false := by decide) : PS X (.Return (some (.Name x p)) pos) (tS X.K c (sRetN i)) := PS_imp (ps_ret (pe_var hN hv hd hcd)) fun D σ H q => by
  obtain ⟨π, ρ, G, S, k⟩ := q
  unfold sRetN at k
  cases e : ρ[i]? with
  | none => rw [e] at k; exact False.elim k
  | some s =>
    rw [e] at k
    cases s with
    | v d =>
      obtain ⟨w, e1, r1⟩ := S.val e
      exact ⟨w, e1, k w σ G H (Same.refl _) Ext.refl S r1⟩
    | o d =>
      obtain ⟨q, e1, g1, o1⟩ := S.ok i _ e
      obtain ⟨S2, e2⟩ := S.kill i
      refine ⟨.ref q, e1, k _ σ G H (Same.refl _) e2 S2 ⟨q, rfl, g1, o1, fun ⟨j, t, h1, h2, h3⟩ => ?_, .inr ⟨i, _, e, rfl, e1⟩⟩⟩
      rcases getset h1 with ⟨_, _, rfl⟩ | ⟨nj, h1⟩
      · cases h2
      · exact nj (S.inj j i q t _ h1 e h2 rfl h3 e1)
    | _ => exact False.elim k
theorem rs_drop (he : PE X e (tE X.K c f)) (hs : swapsWith e none pos.line X.env = pure false := by rfl) : PS X (.Expr e pos) (tS X.K c (sDrop f)) := PS_imp (ps_expr he hs) fun D σ H q => by
  obtain ⟨π, ρ, G, S, k⟩ := q
  refine ⟨π, ρ, G, S, (PoS.bind k).mono fun d1 ρ1 G1 H1 _ _ S1 k1 w1 r1 => ?_⟩
  exact k1 σ G1 H1 (Same.refl _) Ext.refl S1
theorem rs_if {sa sb : List Stmt} (hc : PT X e (tT X.K c f)) (ha : PSs X sa (tS X.K c A)) (hb : PSs X sb (tS X.K c B)) : PS X (.If e sa sb pos) (tS X.K c (sIf f A B)) := PS_imp (ps_if hc ha hb) fun D σ H q => by
  obtain ⟨π, ρ, G, S, k⟩ := q
  refine ⟨π, ρ, G, S, (PoS.bind k).mono fun d1 ρ1 G1 H1 _ _ S1 k1 => ?_⟩
  cases d1 with
  | bl z =>
    refine ⟨z, rfl, ?_⟩
    cases z with
    | true => exact iteT ⟨π, ρ1, G1, S1, k1⟩
    | false => exact iteF ⟨π, ρ1, G1, S1, k1⟩
  | _ => exact False.elim k1
/-- x op= e, x a value -/
theorem rs_aug (i : Nat) {pos' : Pos} {op : Operator} {g : D → D → Option D} (hN : X.N.Nodup) (hi : X.N[i]? = some x) (hx : Loc X.env.scope x) (ho : OpD X (inplaceOp op) g) (he : PE X e (tE X.K c f)) (hf : X.fn x = true ∨ X.env.scope.names.lookup x = some .local := by first | exact .inl rfl | exact .inr rfl | assumption) :
    PS X (.AugAssign (.Name x pos') op e pos) (tS X.K c (sAug i g f)) := by
  have hp : PIp X op (rU2 X (inplaceOp op)) := fun pins s σ H x y v u Q I rx ry hh => hh pins s σ v u I rx ry
  refine PS_imp (ps_aug hN hi hx he hp hf) fun D σ H q => ?_
  obtain ⟨π, ρ, G, S, k⟩ := q
  unfold sAug at k
  cases z : ρ[i]? with
  | none => rw [z] at k; exact False.elim k
  | some s =>
    rw [z] at k
    cases s with
    | v d =>
      obtain ⟨w, e1, r1⟩ := S.val z
      refine ⟨w, e1, π, ρ, G, S, (PoS.bind k).mono fun d2 ρ2 G2 H2 s2 _ S2 k2 w2 r2 => ?_⟩
      have k3 := PoS.bind k2
      cases z2 : g d d2 with
      | none => rw [z2] at k3; exact False.elim k3
      | some d3 =>
        rw [z2] at k3
        refine ho.run S2.sub (r1.mono s2 _) r2 z2 fun w3 G3 H3 g3 r3 => ?_
        obtain ⟨S3, e3⟩ := (S2.grow g3).1.set r3 i
        exact k3.grow S2 g3 _ _ _ (Same.refl _) e3 S3
    | _ => exact False.elim k

/-! ### while -/
theorem rs_while (ks : List Nat) {body : List Stmt} (hp : PassesOwn (model X.prog X.w) X.A X.env X.xe) (hc : PT X e (tT X.K c f)) (hb : PSs X body (tS X.K c A)) : PS X (.While e body [] pos) (tS X.K c (sWhile ks f A)) := PS_imp (ps_while hp hc hb) fun D σ H q => by
  obtain ⟨π, ρ, G, S, k⟩ := q
  obtain ⟨S0, e0⟩ := S.wipe ks
  refine ⟨fun m σ H => ∃ ρ G, SE X.K π ρ G σ H ∧ PoS X.K c π ρ G σ H (whileL ks f A m ρ) D, ⟨fuel, _, G, S0, PoS.step (Same.refl _) e0 k⟩, ?_⟩
  rintro m σ H ⟨ρ, G, S, k⟩
  cases m with
  | zero => exact False.elim k
  | succ n =>
    refine ⟨π, ρ, G, S, (PoS.bind k).mono fun d1 ρ1 G1 H1 _ _ S1 k1 => ?_⟩
    cases d1 with
    | bl z =>
      refine ⟨z, rfl, ?_⟩
      cases z with
      | true =>
        refine iteT ⟨_, fun σ' H' hw => ⟨n, Nat.lt_succ_self n, hw⟩, π, ρ1, G1, S1, ?_⟩
        cases y : A ρ1 with
        | ok fl ρ2 =>
          simp only [y] at k1
          cases fl with
          | nx =>
            intro σ' G' H' s' e' S'
            obtain ⟨S3, e3⟩ := S'.wipe ks
            exact ⟨_, G', S3, PoS.step s' (e'.trans e3) k1⟩
          | cnt =>
            intro σ' G' H' s' e' S'
            obtain ⟨S3, e3⟩ := S'.wipe ks
            exact ⟨_, G', S3, PoS.step s' (e'.trans e3) k1⟩
          | brk =>
            intro σ' G' H' s' e' S'
            obtain ⟨S3, e3⟩ := S'.wipe ks
            exact k1 σ' G' H' s' (e'.trans e3) S3
          | ret r => exact k1
        | rz x ρ2 => simp only [y] at k1; exact k1
        | st => simp only [y] at k1; exact False.elim k1
      | false => exact iteF (k1 σ G1 H1 (Same.refl _) Ext.refl S1)
    | _ => exact False.elim k1

/-! ### targets -/
def Tg.slots : Tg → List Nat
  | .n i => [i]
  | .t is => is
/-- what a target's store is to reach -/
def rG (K : PySem.W.Frag) (g : Tg) : TG := fun v σ H Q => ∃ π ρ G d ρ', SE K π ρ G σ H ∧ Rep K G v d ∧ g.put d ρ = some ρ' ∧ ∀ σ', Ext ρ σ G H ρ' σ' G H → SE K π ρ' G σ' H → (∀ vs, (∀ i ∈ g.slots, i ∈ vs) → L2.wipe σ' vs = L2.wipe σ vs) → Q σ' H
theorem wipe_set {σ : St} {i : Nat} {w : Option V} : ∀ {vs : List Nat}, i ∈ vs → L2.wipe (σ.set i w) vs = L2.wipe σ vs
  | [], h => by cases h
  | v :: vs, h => by
    unfold L2.wipe
    by_cases e : v = i
    · subst e
      by_cases hm : v ∈ vs
      · rw [wipe_set hm]
      · have : ∀ us : List Nat, v ∉ us → (L2.wipe (σ.set v w) us) = (L2.wipe σ us).set v w := by
          intro us
          induction us with
          | nil => intro _; rfl
          | cons u us ih =>
            intro hu
            unfold L2.wipe
            rw [ih fun z => hu (List.mem_cons_of_mem _ z)]
            rw [List.set_comm _ _ (fun z => hu (by rw [z]; exact List.mem_cons_self))]
        rw [this vs hm, List.set_set]
    · rcases List.mem_cons.mp h with z | z
      · exact absurd z.symm e
      · rw [wipe_set z]
theorem PG_imp {t t' : TG} (h : PG X e t) (m : ∀ v σ H Q, t' v σ H Q → t v σ H Q) : PG X e t' := ⟨fun pins s σ H v u Q I r hw => h.run pins s σ H v u Q I r (m v σ H Q hw)⟩
theorem rg_name (i : Nat) (hN : X.N.Nodup) (hi : X.N[i]? = some x) (hx : Loc X.env.scope x) (hf : X.fn x = true ∨ X.env.scope.names.lookup x = some .local := by first | exact .inl rfl | exact .inr rfl | assumption) : PG X (.Name x pos) (rG X.K (.n i)) :=
  PG_imp (pg_name hN hi hx hf) fun v σ H Q q => by
    obtain ⟨π, ρ, G, d, ρ', S, r, e, k⟩ := q
    obtain rfl := Option.some.inj e
    obtain ⟨S2, e2⟩ := S.set r i
    exact k _ e2 S2 fun vs hv => wipe_set (hv i (List.mem_singleton.mpr rfl))
def rGs (K : PySem.W.Frag) (is : List Nat) : TGs := fun vs σ H Q => ∃ π ρ G ds ρ', SE K π ρ G σ H ∧ Reps K G vs ds ∧ setAll is ds ρ = some ρ' ∧ ∀ σ', Ext ρ σ G H ρ' σ' G H → SE K π ρ' G σ' H → (∀ us, (∀ i ∈ is, i ∈ us) → L2.wipe σ' us = L2.wipe σ us) → Q σ' H
theorem rgs_nil : PGs X [] (rGs X.K []) := ⟨fun pins s σ H vs us Q I r q => pgs_nil.run pins s σ H vs us Q I r (by
  obtain ⟨π, ρ, G, ds, ρ', S, r, e, k⟩ := q
  cases ds with
  | nil =>
    cases r
    obtain rfl := Option.some.inj e
    exact ⟨rfl, k σ Ext.refl S fun _ _ => rfl⟩
  | cons _ _ => cases e)⟩
theorem rgs_cons (i : Nat) {is : List Nat} (hN : X.N.Nodup) (hi : X.N[i]? = some x) (hx : Loc X.env.scope x) (h2 : PGs X es (rGs X.K is)) (hf : X.fn x = true ∨ X.env.scope.names.lookup x = some .local := by first | exact .inl rfl | exact .inr rfl | assumption)
    (hs : (assignEach (.Name x pos :: es) X.env).map (·.2) = assign (.Name x pos) X.env :: (assignEach es X.env).map (·.2) := by rfl) : PGs X (.Name x pos :: es) (rGs X.K (i :: is)) := ⟨fun pins s σ H vs us Q I r q => (pgs_cons (pg_name hN hi hx hf) h2 hs).run pins s σ H vs us Q I r (by
  obtain ⟨π, ρ, G, ds, ρ', S, r, e, k⟩ := q
  cases ds with
  | nil => cases e
  | cons d ds =>
    cases r with
    | cons r1 r2 =>
      obtain ⟨S2, e2⟩ := S.set r1 i
      refine ⟨_, _, rfl, π, _, G, ds, ρ', S2, r2, e, fun σ' e' S' hw => k σ' (e2.trans e') S' fun us hu => ?_⟩
      rw [hw us fun j hj => hu j (List.mem_cons_of_mem _ hj)]
      exact wipe_set (hu i List.mem_cons_self))⟩
theorem rg_tup {k : Nat} {is : List Nat} {n : Nat} (hc : X.calm = true) (h : PGs X es (rGs X.K is)) (hl : is.length = n := by rfl)
    (hn : (assignEach es X.env).length = n := by rfl) (hst : (assignEach es X.env).findIdx? (·.1) = none := by rfl) : PG X (.Tuple es k pos) (rG X.K (.t is)) := ⟨fun pins s σ H v u Q I r q => by
  obtain ⟨π, ρ, G, d, ρ', S, rd, e, kk⟩ := q
  have len : ∀ {is : List Nat} {ds : List D} {ρ ρ' : Env}, setAll is ds ρ = some ρ' → ds.length = is.length := by
    intro is
    induction is with
    | nil => intro ds ρ ρ' e; cases ds with | nil => rfl | cons _ _ => cases e
    | cons i is ih => intro ds ρ ρ' e; cases ds with | nil => cases e | cons d ds => simp [ih e]
  cases rd with
  | tup h1 h2 =>
    refine (pg_tup hc h hn hst).run pins s σ H _ u Q I r ⟨_, _, rfl, Same.tupS S.sub h1, ?_, π, ρ, G, _, ρ', S, h2, e, kk⟩
    rw [h2.length, len e, hl]
  | lst h1 h2 =>
    refine (pg_lst hc h hn hst).run pins s σ H _ u Q I r ⟨_, _, rfl, SqL.of (S.sub _ _ h1), ?_, π, ρ, G, _, ρ', S, h2, e, kk⟩
    rw [h2.length, len e, hl]
  | _ => cases e⟩
/-- targets = e -/
theorem rs_tg {g : Tg} {tg : Expr} (he : PE X e (tE X.K c f)) (hg : PG X tg (rG X.K g)) (hs : swapsWithSole [tg] e pos.line X.env = pure false := by rfl) (hw : swappedStores [tg] e X.env = pure none := by rfl)
    (h1 : (assignEach [tg] X.env).map (·.2) = [assign tg X.env] := by rfl) : PS X (.Assign [tg] e pos) (tS X.K c (sTg g f)) := PS_imp (ps_asg he hg hs hw h1) fun D σ H q => by
  obtain ⟨π, ρ, G, S, k⟩ := q
  refine ⟨π, ρ, G, S, (PoS.bind k).mono fun d1 ρ1 G1 H1 _ _ S1 k1 w1 r1 => ?_⟩
  cases z : g.put d1 ρ1 with
  | none => simp only [z] at k1; exact False.elim k1
  | some ρ2 =>
    simp only [z] at k1
    exact ⟨π, ρ1, G1, d1, ρ2, S1, r1, z, fun σ' e' S' _ => k1 σ' G1 H1 (Same.refl _) e' S'⟩
end
end NV

set_option Elab.async false
set_option linter.all false
set_option maxRecDepth 100000
set_option maxHeartbeats 4000000
/-! Lay8: what is walked; for; comprehensions. -/
namespace NV
open PySem PySem.Spec PyProof.Rows L2
/-- it gives these items, each as it comes, while what was a value stays -/
def ItOk (K : PySem.W.Frag) (J : It) (G : Hp) (items : List D) : Prop :=
  Walk J items.length (fun H => Same G H) fun i H x H' => ∃ d, items[i]? = some d ∧ ∀ Gi, Same G Gi → Same Gi H → ∃ Gi', Grow Gi H Gi' H' ∧ Rep K Gi' x d
def tI (K : PySem.W.Frag) (c : Lv) (it : Ei) : TI := fun σ H R => ∃ π ρ G, SE K π ρ G σ H ∧ Po K c π ρ G σ H (it ρ) fun items _ G' H' => ∀ J, ItOk K J G' items → R J H'
section
variable {K : PySem.W.Frag} {G : Hp}
theorem itok_at {J : It} {items : List D} {xs : List V} {C : Hp → Prop} (r : Reps K G xs items) (w : L2.Walk J xs.length C (YAt xs)) (h : ∀ H, Same G H → C H) : ItOk K J G items := by
  unfold ItOk
  rw [← r.length]
  refine w.mono h fun i H x H' hi g y => ?_
  obtain ⟨e, hx⟩ := y
  subst e
  obtain ⟨d, hd, rd⟩ := r.getV hx
  exact ⟨d, hd, fun Gi s1 s2 => ⟨Gi, Grow.refl s2, rd.mono s1 _⟩⟩
theorem itok_list {a : Addr} {items : List D} {xs : List V} (hq : SqL K G a xs) (r : Reps K G xs items) : ItOk K (Itl K a) G items := itok_at r walk_list fun H s => s.seq hq
theorem itok_tup {a : Addr} {items : List D} {xs : List V} (hq : SqT K G a xs) (r : Reps K G xs items) : ItOk K (Itt K a) G items := itok_at r walk_tup fun H s => Same.tupS s hq
theorem itok_str {s : List Nat} : ItOk K (Its (ofL s)) G (s.map fun c => D.str [c]) := by
  unfold ItOk
  have hl : (s.map fun c => D.str [c]).length = (ofL s).cps.size := by
    rw [List.length_map]
    exact (ofL_len s).symm
  rw [hl]
  refine walk_str.mono (fun _ _ => trivial) fun i H x H' hi g y => ?_
  obtain ⟨e, c, hc, rfl⟩ := y
  subst e
  have : s[i]? = some c := by
    have := hc
    rw [← Array.getElem?_toList, ofL_cps] at this
    exact this
  exact ⟨.str [c], by rw [List.getElem?_map, this]; rfl, fun Gi s1 s2 => ⟨Gi, Grow.refl s2, .str [c]⟩⟩
theorem itok_range {a b : Int} : ItOk K (Itr a (b - a).toNat) G (rng a b) := by
  unfold ItOk
  have hl : (rng a b).length = (b - a).toNat := by unfold rng; simp
  rw [hl]
  refine walk_range.mono (fun _ _ => trivial) fun i H x H' hi g y => ?_
  obtain ⟨e, rfl⟩ := y
  subst e
  refine ⟨.int (a + i), ?_, fun Gi s1 s2 => ⟨Gi, Grow.refl s2, .int _⟩⟩
  unfold rng
  rw [List.getElem?_map, List.getElem?_range hi]
  rfl
theorem itok_rev {a : Addr} {items : List D} {xs : List V} (hq : SqL K G a xs) (r : Reps K G xs items) : ItOk K (Itv K a xs.length) G items.reverse := by
  unfold ItOk
  rw [List.length_reverse, ← r.length]
  refine walk_rev.mono (fun H s => s.seq hq) fun i H x H' hi g y => ?_
  obtain ⟨e, hx⟩ := y
  subst e
  obtain ⟨d, hd, rd⟩ := r.getV hx
  refine ⟨d, ?_, fun Gi s1 s2 => ⟨Gi, Grow.refl s2, rd.mono s1 _⟩⟩
  rw [List.getElem?_reverse (by rw [← r.length]; exact hi), ← r.length]
  exact hd
theorem itok_pair {J : It} {n : Nat} {C : Hp → Prop} {xs ys : Nat → Option V} {items : List D} (hn : items.length = n) (w : L2.Walk J n C (YPair xs ys)) (h : ∀ H, Same G H → C H)
    (hi : ∀ i x y, xs i = some x → ys i = some y → ∃ d e, items[i]? = some (.tup [d, e]) ∧ Rep K G x d ∧ Rep K G y e) : ItOk K J G items := by
  unfold ItOk
  rw [hn]
  refine w.mono h fun i H v H' hi' g y => ?_
  obtain ⟨T, x, z, rfl, nT, rfl, e1, e2⟩ := y
  obtain ⟨d, e, he, rd, re⟩ := hi i x z e1 e2
  refine ⟨_, he, fun Gi s1 s2 => ⟨_, Grow.tr (o := .tup [x, z]) s2 nT, ?_⟩⟩
  have g := Grow.tr (o := .tup [x, z]) s2 nT
  exact .tup (.inl (.inl upd_same)) (.cons ((rd.mono s1 _).mono g.g _) (.cons ((re.mono s1 _).mono g.g _) .nil))
theorem enumL_get : ∀ (ds : List D) (n i : Nat), (enumL n ds)[i]? = (ds[i]?).map fun d => D.tup [.int ((n + i : Nat) : Int), d]
  | [], _, _ => by simp [enumL]
  | d :: ds, n, 0 => by simp [enumL]
  | d :: ds, n, i + 1 => by
    simp only [enumL, List.getElem?_cons_succ]
    rw [enumL_get ds (n + 1) i]
    congr 1
    funext d
    congr 4
    omega
theorem enumL_len : ∀ (ds : List D) (n : Nat), (enumL n ds).length = ds.length
  | [], _ => rfl
  | d :: ds, n => by simp [enumL, enumL_len ds (n + 1)]
theorem itok_enum {a : Addr} {items : List D} {xs : List V} (hq : SqL K G a xs) (r : Reps K G xs items) : ItOk K (Ite K a) G (enumL 0 items) := by
  refine itok_pair (by rw [enumL_len, r.length]) walk_enum (fun H s => s.seq hq) fun i x y e1 e2 => ?_
  obtain ⟨d, hd, rd⟩ := r.getV e2
  cases e1
  exact ⟨.int i, d, by rw [enumL_get, hd]; simp, .int _, rd⟩
theorem itok_zip {a b : Addr} {items jtems : List D} {xs ys : List V} (hq : SqL K G a xs) (r : Reps K G xs items) (hq' : SqL K G b ys) (r' : Reps K G ys jtems) : ItOk K (Itz K a b) G (List.zipWith (fun x y => D.tup [x, y]) items jtems) := by
  refine itok_pair (n := min xs.length ys.length) (by rw [List.length_zipWith, r.length, r'.length]) (walk_zip rfl) (fun H s => ⟨s.seq hq, s.seq hq'⟩) fun i x y e1 e2 => ?_
  obtain ⟨d, hd, rd⟩ := r.getV e1
  obtain ⟨e, he, re⟩ := r'.getV e2
  exact ⟨d, e, by simp [List.getElem?_zipWith, hd, he], rd, re⟩
end
section
variable {X : Cx} {c : Lv} {a b e tg iter : Expr} {es : List Expr} {f h l : Ev} {r : Ea} {pos p apos : Pos} {x : Str} {st : Stmt} {sts : List Stmt} {A B : Es} {it : Ei} {g : Tg}
theorem ri_e (he : PE X e (tE X.K c f)) : PI X tg e (tI X.K c (iE f)) := ⟨fun pins s σ H R I q => by
  obtain ⟨π, ρ, G, S, k⟩ := q
  have k' := Po.bind k
  cases z : f ρ with
  | ok d ρ1 =>
    rw [z] at k'
    cases d with
    | lst ds =>
      refine (pi_list he).run pins s σ H R I ⟨π, ρ, G, S, ?_⟩
      rw [z]
      intro G1 H1 s1 e1 S1 w rw'
      cases rw' with
      | lst h1 h2 => exact ⟨_, rfl, ⟨_, SqL.of (S1.sub _ _ h1)⟩, (k' G1 H1 s1 e1 S1).now S1 _ (itok_list (SqL.of h1) h2)⟩
    | scr ds =>
      refine (pi_list he).run pins s σ H R I ⟨π, ρ, G, S, ?_⟩
      rw [z]
      intro G1 H1 s1 e1 S1 w rw'
      cases rw' with
      | scr h1 h2 => exact ⟨_, rfl, ⟨_, S1.sub.seq h1⟩, (k' G1 H1 s1 e1 S1).now S1 _ (itok_list h1 h2)⟩
    | tup ds =>
      refine (pi_tup he).run pins s σ H R I ⟨π, ρ, G, S, ?_⟩
      rw [z]
      intro G1 H1 s1 e1 S1 w rw'
      cases rw' with
      | tup h1 h2 => exact ⟨_, rfl, ⟨_, Same.tupS S1.sub h1⟩, (k' G1 H1 s1 e1 S1).now S1 _ (itok_tup h1 h2)⟩
    | str z' =>
      refine (pi_str he).run pins s σ H R I ⟨π, ρ, G, S, ?_⟩
      rw [z]
      intro G1 H1 s1 e1 S1 w rw'
      cases rw'
      exact ⟨_, rfl, (k' G1 H1 s1 e1 S1).now S1 _ itok_str⟩
    | _ =>
      refine (pi_list he).run pins s σ H R I ⟨π, ρ, G, S, ?_⟩
      rw [z]
      exact fun G1 H1 s1 e1 S1 _ _ => False.elim (k' G1 H1 s1 e1 S1)
  | rz x ρ1 =>
    rw [z] at k'
    refine (pi_list he).run pins s σ H R I ⟨π, ρ, G, S, ?_⟩
    rw [z]
    exact k'
  | st => rw [z] at k'; exact False.elim k'⟩
theorem ri_r1 (hg : Gl X "range") (hm : X.mg "range" = none) (ha : PE X a (tE X.K c f)) (hs : starEach [a] X.env = [(false, eval a X.env)] := by rfl) : PI X tg (.Call (.Name "range" p) [a] [] pos) (tI X.K c (iR1 f)) := ⟨fun pins s σ H R I q => by
  obtain ⟨π, ρ, G, S, k⟩ := q
  refine (pi_range1 hg hm (pa_cons ha pa_nil hs) hs).run pins s σ H R I ⟨π, ρ, G, S, (Po.bind k).mono fun d1 ρ1 G1 H1 _ _ S1 k1 w1 r1 => ?_⟩
  cases d1 with
  | int j =>
    obtain rfl := r1.int_iff
    simp only at k1
    split at k1
    · rename_i hb
      unfold inR at hb
      rw [Bool.and_eq_true, decide_eq_true_eq, decide_eq_true_eq] at hb
      refine ⟨j, rfl, by omega, by omega, k1.now S1 _ ?_⟩
      have := itok_range (K := X.K) (G := G1) (a := 0) (b := j)
      rw [Int.sub_zero] at this
      exact this
    · exact False.elim k1
  | _ => exact False.elim k1⟩
theorem ri_r2 (hg : Gl X "range") (hm : X.mg "range" = none) (ha : PE X a (tE X.K c f)) (hb : PE X b (tE X.K c h)) (hs : starEach [a, b] X.env = [(false, eval a X.env), (false, eval b X.env)] := by rfl) (hs2 : starEach [b] X.env = [(false, eval b X.env)] := by rfl) : PI X tg (.Call (.Name "range" p) [a, b] [] pos) (tI X.K c (iR2 f h)) := ⟨fun pins s σ H R I q => by
  obtain ⟨π, ρ, G, S, k⟩ := q
  refine (pi_range2 hg hm (pa_cons ha (pa_cons hb pa_nil hs2) (by rw [hs, hs2])) hs hs2).run pins s σ H R I ⟨π, ρ, G, S, (Po.bind k).mono fun d1 ρ1 G1 H1 _ _ S1 k1 w1 r1 => ⟨π, ρ1, G1, S1, (Po.bind k1).mono fun d2 ρ2 G2 H2 s2 _ S2 k2 w2 r2 => ?_⟩⟩
  cases d1 <;> cases d2 <;> first | exact False.elim k2 | skip
  rename_i i j
  obtain rfl := r1.int_iff
  obtain rfl := r2.int_iff
  simp only at k2
  split at k2
  · rename_i hb
    unfold inR at hb
    rw [Bool.and_eq_true, Bool.and_eq_true, Bool.and_eq_true, decide_eq_true_eq, decide_eq_true_eq, decide_eq_true_eq, decide_eq_true_eq] at hb
    exact ⟨i, j, rfl, ⟨by omega, by omega, by omega, by omega⟩, k2.now S2 _ itok_range⟩
  · exact False.elim k2⟩
theorem ri_zip {elts : List Expr} {kk : Nat} {tpos : Pos} (hg : Gl X "zip") (hm : X.mg "zip" = none) (ha : PE X a (tE X.K c f)) (hb : PE X b (tE X.K c h)) (hs : starEach [a, b] X.env = (false, eval a X.env) :: starEach [b] X.env := by rfl) (hs2 : starEach [b] X.env = (false, eval b X.env) :: starEach [] X.env := by rfl) (hpl : (backTo pos (starEach [b] X.env)).any (·.1) = false := by rfl) :
    PI X (.Tuple elts kk tpos) (.Call (.Name "zip" p) [a, b] [] pos) (tI X.K c (iZip f h)) := ⟨fun pins s σ H R I q => by
  obtain ⟨π, ρ, G, S, k⟩ := q
  refine (pi_zip hg hm (pa_cons ha (pa_cons hb pa_nil hs2) hs) hs hpl).run pins s σ H R I ⟨π, ρ, G, S, (Po.bind k).mono fun d1 ρ1 G1 H1 _ _ S1 k1 w1 r1 => ⟨π, ρ1, G1, S1, (Po.bind k1).mono fun d2 ρ2 G2 H2 s2 _ S2 k2 w2 r2 => ?_⟩⟩
  cases d1 <;> cases d2 <;> first | exact False.elim k2 | skip
  cases r1 with
  | lst h1 h2 =>
    cases r2 with
    | lst h3 h4 => exact ⟨_, _, _, _, rfl, SqL.of (S2.sub _ _ (s2 _ _ h1)), SqL.of (S2.sub _ _ h3), k2.now S2 _ (itok_zip (SqL.of (s2 _ _ h1)) (Reps.mono s2 _ _ h2) (SqL.of h3) h4)⟩⟩
theorem ri_enum {elts : List Expr} {kk : Nat} {tpos : Pos} (hg : Gl X "enumerate") (hm : X.mg "enumerate" = none) (ha : PE X a (tE X.K c f)) (hs : starEach [a] X.env = [(false, eval a X.env)] := by rfl) : PI X (.Tuple elts kk tpos) (.Call (.Name "enumerate" p) [a] [] pos) (tI X.K c (iEnum f)) := ⟨fun pins s σ H R I q => by
  obtain ⟨π, ρ, G, S, k⟩ := q
  refine (pi_enum hg hm (pa_cons ha pa_nil hs) hs).run pins s σ H R I ⟨π, ρ, G, S, (Po.bind k).mono fun d1 ρ1 G1 H1 _ _ S1 k1 w1 r1 => ?_⟩
  cases d1 <;> first | exact False.elim k1 | skip
  cases r1 with
  | lst h1 h2 => exact ⟨_, _, rfl, SqL.of (S1.sub _ _ h1), k1.now S1 _ (itok_enum (SqL.of h1) h2)⟩⟩
theorem ri_rev (hg : Gl X "reversed") (hm : X.mg "reversed" = none) (ha : PE X a (tE X.K c f)) (hs : starEach [a] X.env = [(false, eval a X.env)] := by rfl) : PI X tg (.Call (.Name "reversed" p) [a] [] pos) (tI X.K c (iRev f)) := ⟨fun pins s σ H R I q => by
  obtain ⟨π, ρ, G, S, k⟩ := q
  refine (pi_reversed hg hm (pa_cons ha pa_nil hs) hs).run pins s σ H R I ⟨π, ρ, G, S, (Po.bind k).mono fun d1 ρ1 G1 H1 _ _ S1 k1 w1 r1 => ?_⟩
  cases d1 <;> first | exact False.elim k1 | skip
  cases r1 with
  | lst h1 h2 => exact ⟨_, _, rfl, SqL.of (S1.sub _ _ h1), k1.now S1 _ (itok_rev (SqL.of h1) h2)⟩⟩
/-! ### for -/
theorem rs_for (ks : List Nat) {body : List Stmt} (hp : PassesOwn (model X.prog X.w) X.A X.env X.xe) (hc : X.calm = true) (hi : PI X tg iter (tI X.K c it)) (hg : PG X tg (rG X.K g)) (hb : PSs X body (tS X.K c A))
    (hs : ∀ x, foldedSetIterable iter X.env x = pure x := by intro _; rfl) : PS X (.For tg iter body [] pos) (tS X.K c (sFor g ks it A)) := PS_imp (ps_for hp hc hi hg hb hs) fun D σ H q => by
  obtain ⟨π, ρ, G, S, k⟩ := q
  refine ⟨π, ρ, G, S, (PoS.bind k).mono fun items ρ1 G1 H1 _ _ S1 k1 J hJ => ?_⟩
  obtain ⟨S2, e2⟩ := S1.wipe ks
  refine for_it hJ (fun i σ H => ∃ ρ G, SE X.K π ρ G σ H ∧ Same G1 G ∧ PoS X.K c π ρ G σ H (forL g ks A (items.drop i) ρ) D) ⟨_, G1, S2, Same.refl _, PoS.step (Same.refl _) e2 (by rw [List.drop_zero]; exact k1)⟩ (fun i σ H _ ⟨ρ, G, S, s, _⟩ => s.trans S.sub) ?_ ?_
  · rintro i x σ H H' hi ⟨ρ, G, S, s, k⟩ ⟨d, hd, hy⟩
    obtain ⟨Gi, gr, rd⟩ := hy G s S.sub
    obtain ⟨S', e'⟩ := S.grow gr
    have hlt : i < items.length := hi
    have ed : items.drop i = d :: items.drop (i + 1) := by
      have : items[i] = d := by
        rw [List.getElem?_eq_getElem hlt] at hd
        exact Option.some.inj hd
      rw [← this]
      exact List.drop_eq_getElem_cons hlt
    rw [ed] at k
    unfold forL at k
    cases z : g.put d ρ with
    | none => rw [z] at k; exact False.elim k
    | some ρ2 =>
      rw [z] at k
      refine ⟨π, ρ, Gi, d, ρ2, S', rd, z, fun σ' e3 S3 _ => ⟨π, ρ2, Gi, S3, ?_⟩⟩
      have k2 := PoS.step gr.g (e'.trans e3) k
      cases y : A ρ2 with
      | ok fl ρ3 =>
        simp only [y] at k2
        cases fl with
        | nx =>
          intro σ4 G4 H4 s4 e4 S4
          obtain ⟨S5, e5⟩ := S4.wipe ks
          exact ⟨_, G4, S5, (s.trans gr.g).trans s4, PoS.step s4 (e4.trans e5) k2⟩
        | cnt =>
          intro σ4 G4 H4 s4 e4 S4
          obtain ⟨S5, e5⟩ := S4.wipe ks
          exact ⟨_, G4, S5, (s.trans gr.g).trans s4, PoS.step s4 (e4.trans e5) k2⟩
        | brk =>
          intro σ4 G4 H4 s4 e4 S4
          obtain ⟨S5, e5⟩ := S4.wipe ks
          exact k2 σ4 G4 H4 s4 (e4.trans e5) S5
        | ret r => exact k2
      | rz x ρ2 => simp only [y] at k2; exact k2
      | st => simp only [y] at k2; exact False.elim k2
  · rintro σ H ⟨ρ, G, S, s, k⟩
    rw [List.drop_length] at k
    exact k σ G H (Same.refl _) Ext.refl S
/-! ### comprehensions -/
theorem getset_n {σ : St} {i j : Nat} : (σ.set i none)[j]? = if j = i ∧ i < σ.length then some none else σ[j]? := by
  by_cases e : j = i
  · subst e
    by_cases hl : j < σ.length
    · rw [List.getElem?_set_self hl, if_pos ⟨rfl, hl⟩]
    · rw [List.getElem?_eq_none (by simpa using hl), if_neg (fun z => hl z.2), List.getElem?_eq_none (by simpa using hl)]
  · rw [List.getElem?_set_ne (Ne.symm e), if_neg (fun z => e z.1)]
theorem SE.killσ {K : PySem.W.Frag} {π : Nat → Addr} {ρ : Env} {G H : Hp} {σ : St} (S : SE K π ρ G σ H) (i : Nat) : SE K π (ρ.set i .un) G (σ.set i none) H ∧ Ext ρ σ G H (ρ.set i .un) (σ.set i none) G H := by
  have key : ∀ {j : Nat} {s : Sl}, (ρ.set i .un)[j]? = some s → s = .un ∨ (ρ[j]? = some s ∧ (σ.set i none)[j]? = σ[j]?) := fun {j s} h => by
    rcases getset h with ⟨_, _, e⟩ | ⟨n, h⟩
    · exact .inl e
    · exact .inr ⟨h, by rw [getset_n, if_neg (fun z => n z.1)]⟩
  refine ⟨⟨S.sub, by rw [List.length_set, List.length_set]; exact S.len, fun j s h => ?_, fun j k b s t h1 h2 o1 o2 q1 q2 => ?_⟩, fun b o h n => ⟨h, fun ⟨j, s, h1, o1, h2⟩ => ?_, fun z => z⟩⟩
  · rcases key h with rfl | ⟨h, e⟩
    · trivial
    · rw [e]; exact S.ok j s h
  · rcases key h1 with rfl | ⟨h1, e1⟩
    · cases o1
    · rcases key h2 with rfl | ⟨h2, e2⟩
      · cases o2
      · rw [e1] at q1; rw [e2] at q2
        exact S.inj j k b s t h1 h2 o1 o2 q1 q2
  · rcases key h1 with rfl | ⟨h1, e1⟩
    · cases o1
    · rw [e1] at h2
      exact n ⟨j, s, h1, o1, h2⟩
theorem SE.wipeσ {K : PySem.W.Frag} {π : Nat → Addr} {ρ : Env} {G H : Hp} {σ : St} (S : SE K π ρ G σ H) : ∀ ws : List Nat, SE K π (wipeE ρ ws) G (L2.wipe σ ws) H ∧ Ext ρ σ G H (wipeE ρ ws) (L2.wipe σ ws) G H
  | [] => ⟨S, Ext.refl⟩
  | i :: r => by
    obtain ⟨S1, e1⟩ := SE.wipeσ S r
    obtain ⟨S2, e2⟩ := S1.killσ i
    exact ⟨S2, e1.trans e2⟩
/-- an object that nobody looks at turns -/
theorem SE.apart {K : PySem.W.Frag} {π : Nat → Addr} {ρ : Env} {G H : Hp} {σ : St} {p : Addr} {o : HO} (S : SE K π ρ G σ H) (g : G p = none) (n : ¬ Ownd ρ σ p) : SE K π ρ G σ (L2.upd H p o) := by
  have keep : ∀ b, b ≠ p → L2.upd H p o b = H b := fun b hb => upd_ne hb
  refine ⟨fun b x hb => ?_, S.len, fun i s hs => ?_, S.inj⟩
  · rw [keep b (fun z => by subst z; rw [g] at hb; cases hb)]
    exact S.sub _ _ hb
  · have k := S.ok i s hs
    cases s with
    | un => trivial
    | v d => exact k
    | o d =>
      obtain ⟨q, e, h1, h2⟩ := k
      exact ⟨q, e, h1, h2.mono (Same.refl _) (keep q fun z => n ⟨i, _, hs, rfl, by rw [← z]; exact e⟩)⟩
    | io j d =>
      obtain ⟨e, h1, h2⟩ := k
      exact ⟨e, h1, h2.mono (Same.refl _) (keep _ fun z => n ⟨i, _, hs, rfl, by rw [← z]; exact e⟩)⟩
theorem wipe_get {σ : St} {j : Nat} : ∀ {ws : List Nat}, j ∉ ws → (L2.wipe σ ws)[j]? = σ[j]?
  | [], _ => rfl
  | i :: r, h => by
    unfold L2.wipe
    rw [getset_n, if_neg (fun z => h (by rw [z.1]; exact List.mem_cons_self)), wipe_get fun z => h (List.mem_cons_of_mem _ z)]
theorem wipeE_get {ρ : Env} {j : Nat} : ∀ {ws : List Nat}, j ∉ ws → (wipeE ρ ws)[j]? = ρ[j]?
  | [], _ => rfl
  | i :: r, h => by
    unfold wipeE
    rw [List.getElem?_set_ne (fun z => h (by rw [z]; exact List.mem_cons_self)), wipeE_get fun z => h (List.mem_cons_of_mem _ z)]
theorem wipeE_len (ρ : Env) : ∀ ws : List Nat, (wipeE ρ ws).length = ρ.length
  | [] => rfl
  | i :: r => by unfold wipeE; rw [List.length_set, wipeE_len ρ r]
theorem unwipe_len (ρ0 ρ : Env) : ∀ ws : List Nat, (unwipe ρ0 ρ ws).length = ρ.length
  | [] => rfl
  | i :: r => by unfold unwipe; rw [List.length_set, unwipe_len ρ0 ρ r]
theorem unwipe_get {ρ0 ρ : Env} {j : Nat} {s : Sl} : ∀ {ws : List Nat}, (unwipe ρ0 ρ ws)[j]? = some s → (j ∉ ws ∧ ρ[j]? = some s) ∨ (j ∈ ws ∧ (s = .un ∨ ∃ d, s = .v d ∧ ρ0[j]? = some (.v d)))
  | [], h => .inl ⟨by simp, h⟩
  | i :: r, h => by
    unfold unwipe at h
    rcases getset h with ⟨e, _, hs⟩ | ⟨n, h⟩
    · refine .inr ⟨by rw [e]; exact List.mem_cons_self, ?_⟩
      rw [e]
      cases q : ρ0[i]? with
      | none => rw [q] at hs; exact .inl hs
      | some t =>
        rw [q] at hs
        cases t with
        | v d => exact .inr ⟨d, hs, rfl⟩
        | _ => exact .inl hs
    · rcases unwipe_get h with ⟨m, h⟩ | ⟨m, h⟩
      · exact .inl ⟨fun z => by rcases List.mem_cons.mp z with z | z; exact n z; exact m z, h⟩
      · exact .inr ⟨List.mem_cons_of_mem _ m, h⟩
/-- behind the block the def's slots stand again -/
theorem SE.unwipe {K : PySem.W.Frag} {π : Nat → Addr} {ρ ρ2 : Env} {G G2 H H2 : Hp} {σ : St} {ws : List Nat} (S : SE K π ρ G σ H) (s : Same G G2) (S2 : SE K π (wipeE ρ2 ws) G2 (L2.wipe σ ws) H2) :
    SE K π (NV.unwipe ρ ρ2 ws) G2 σ H2 ∧ ∀ b, Ownd (NV.unwipe ρ ρ2 ws) σ b → Ownd (wipeE ρ2 ws) (L2.wipe σ ws) b := by
  have own : ∀ {j : Nat} {t : Sl}, (NV.unwipe ρ ρ2 ws)[j]? = some t → t.owned = true → (wipeE ρ2 ws)[j]? = some t ∧ (L2.wipe σ ws)[j]? = σ[j]? := fun {j t} h o => by
    rcases unwipe_get h with ⟨m, h⟩ | ⟨_, rfl | ⟨d, rfl, _⟩⟩
    · exact ⟨by rw [wipeE_get m]; exact h, wipe_get m⟩
    · cases o
    · cases o
  refine ⟨⟨S2.sub, ?_, fun j t h => ?_, fun j k b t u h1 h2 o1 o2 q1 q2 => ?_⟩, fun b ⟨j, t, h1, o1, h2⟩ => ?_⟩
  · have l2 := S2.len
    rw [wipeE_len, L2.wipe_length] at l2
    rw [unwipe_len]
    exact l2
  · rcases unwipe_get h with ⟨m, h⟩ | ⟨_, rfl | ⟨d, rfl, e⟩⟩
    · have := S2.ok j t (by rw [wipeE_get m]; exact h)
      rw [wipe_get m] at this
      exact this
    · trivial
    · obtain ⟨w, e1, r⟩ := S.val e
      exact ⟨w, e1, r.mono s _⟩
  · obtain ⟨a1, b1⟩ := own h1 o1
    obtain ⟨a2, b2⟩ := own h2 o2
    exact S2.inj j k b t u a1 a2 o1 o2 (by rw [b1]; exact q1) (by rw [b2]; exact q2)
  · obtain ⟨a1, b1⟩ := own h1 o1
    exact ⟨j, t, a1, o1, by rw [b1]; exact h2⟩
/-- the block's own level: nothing leaves it -/
def Lv.in (c : Lv) : Lv := ⟨c.Z, fun _ _ _ _ => False⟩
def rT (K : PySem.W.Frag) (c : Lv) : Option Ev → TT
  | none => tYes
  | some f => tT K c f
theorem wipe_wipe (σ : St) : ∀ ws : List Nat, L2.wipe (L2.wipe σ ws) ws = L2.wipe σ ws := fun ws => by
  refine List.ext_getElem? fun j => ?_
  by_cases h : j ∈ ws
  · have : ∀ (τ : St), (L2.wipe τ ws)[j]? = if j < τ.length then some none else none := fun τ => by
      by_cases hl : j < τ.length
      · rw [if_pos hl]
        induction ws with
        | nil => cases h
        | cons i r ih =>
          unfold L2.wipe
          rw [getset_n]
          by_cases e : j = i
          · rw [if_pos ⟨e, by rw [L2.wipe_length, ← e]; exact hl⟩]
          · rw [if_neg (fun z => e z.1)]
            rcases List.mem_cons.mp h with z | z
            · exact absurd z e
            · exact ih z
      · rw [if_neg hl, List.getElem?_eq_none (by rw [L2.wipe_length]; omega)]
    rw [this, this, L2.wipe_length]
  · rw [wipe_get h]
/-- what a comprehension's reading asks -/
theorem t_comp {g : Tg} {ws : List Nat} {cnd : Option Ev} {f : Ev} {σ : St} {H : Hp} {Q : VK} (hg : ∀ i ∈ g.slots, i ∈ ws)
    (q : ∃ π ρ G, SE X.K π ρ G σ H ∧ Po X.K c π ρ G σ H (it ρ) fun xs ρ1 G1 H1 => ∃ ds ρ2, compL g ws cnd f xs [] ρ1 = .ok ds ρ2 ∧
      ∀ (G2 H2 : Hp) (Dd : Addr) (vs : List V), Same G1 G2 → Ext ρ1 σ G1 H1 (NV.unwipe ρ1 ρ2 ws) σ G2 H2 → SE X.K π (NV.unwipe ρ1 ρ2 ws) G2 σ H2 → H2 Dd = some (.lst vs) → Reps X.K G2 vs ds → G2 Dd = none → ¬ Ownd (NV.unwipe ρ1 ρ2 ws) σ Dd → H1 Dd = none → Q (.ref Dd) H2) :
    tLc (tI X.K c it) (rG X.K g) (rT X.K c.in cnd) (tE X.K c.in f) ws σ H Q := by
  obtain ⟨π, ρ, G, S, k⟩ := q
  refine ⟨π, ρ, G, S, k.mono fun xs ρ1 G1 H1 s1 e1 S1 k1 J hJ Dd hD => ?_⟩
  obtain ⟨ds, ρ2, hrun, k1⟩ := k1
  have gD : G1 Dd = none := by
    cases z : G1 Dd with
    | none => rfl
    | some o => rw [S1.sub _ _ z] at hD; cases hD
  have oD : ¬ Ownd ρ1 σ Dd := fun z => by
    obtain ⟨_, o, h2⟩ := S1.own z
    rw [hD] at h2; cases h2
  obtain ⟨Sw, ew⟩ := S1.wipeσ ws
  have oDw : ¬ Ownd (wipeE ρ1 ws) (L2.wipe σ ws) Dd := fun z => by
    obtain ⟨_, o, h2⟩ := Sw.own z
    rw [hD] at h2; cases h2
  -- the invariant
  refine lc_it hJ (fun i H => ∃ (ρ : Env) (G : Hp) (acc : List D) (av : List V), SE X.K π (wipeE ρ ws) G (L2.wipe σ ws) H ∧ Same G1 G ∧ Ext (wipeE ρ1 ws) (L2.wipe σ ws) G1 H1 (wipeE ρ ws) (L2.wipe σ ws) G H ∧ H Dd = some (.lst av) ∧ Reps X.K G av acc ∧ G Dd = none ∧ ¬ Ownd (wipeE ρ ws) (L2.wipe σ ws) Dd ∧ compL g ws cnd f (xs.drop i) acc ρ = .ok ds ρ2) ?_ ?_ ?_ ?_
  · refine ⟨ρ1, G1, [], [], Sw.apart gD oDw, Same.refl _, fun b o hb n => ⟨?_, n, fun z => z⟩, upd_same, .nil, gD, oDw, by rw [List.drop_zero]; exact hrun⟩
    rw [upd_ne (fun z => by subst z; rw [hD] at hb; cases hb)]
    exact hb
  · rintro i H _ ⟨ρ, G, acc, av, S, s, _⟩
    exact s.trans S.sub
  · rintro i x H H' hi ⟨ρ, G, acc, av, S, s, e, hd, ra, gd, od, run⟩ ⟨d, hdx, hy⟩
    obtain ⟨Gi, gr, rd⟩ := hy G s S.sub
    obtain ⟨S', e'⟩ := S.grow gr
    have hlt : i < xs.length := hi
    have ed : xs.drop i = d :: xs.drop (i + 1) := by
      have : xs[i] = d := by
        rw [List.getElem?_eq_getElem hlt] at hdx
        exact Option.some.inj hdx
      rw [← this]
      exact List.drop_eq_getElem_cons hlt
    rw [ed] at run
    unfold compL at run
    cases z : g.put d (wipeE ρ ws) with
    | none => rw [z] at run; cases run
    | some ρ3 =>
      simp only [z] at run
      refine ⟨π, wipeE ρ ws, Gi, d, ρ3, S', rd, z, fun σ' e3 S3 hw => ?_⟩
      have hσ : L2.wipe σ' ws = L2.wipe σ ws := (hw ws hg).trans (wipe_wipe σ ws)
      refine ⟨by rw [hσ], ?_⟩
      -- the element, from any state
      have elem : ∀ {ρ4 : Env} {G4 H4 : Hp}, Same Gi G4 → Ext (wipeE ρ ws) (L2.wipe σ ws) Gi H' ρ4 σ' G4 H4 → SE X.K π ρ4 G4 σ' H4 → ((f ρ4).bind fun d' ρ5 => if acc.length < line then compL g ws cnd f (xs.drop (i + 1)) (acc ++ [d']) ρ5 else .st) = .ok ds ρ2 →
          tE X.K c.in f σ' H4 fun y H5 => ∃ acc', H5 Dd = some (.lst acc') ∧ acc'.length < sizeLine ∧ ∃ (ρ : Env) (G : Hp) (acc : List D) (av : List V), SE X.K π (wipeE ρ ws) G (L2.wipe σ ws) (L2.upd H5 Dd (.lst (acc' ++ [y]))) ∧ Same G1 G ∧ Ext (wipeE ρ1 ws) (L2.wipe σ ws) G1 H1 (wipeE ρ ws) (L2.wipe σ ws) G (L2.upd H5 Dd (.lst (acc' ++ [y]))) ∧ (L2.upd H5 Dd (.lst (acc' ++ [y]))) Dd = some (.lst av) ∧ Reps X.K G av acc ∧ G Dd = none ∧ ¬ Ownd (wipeE ρ ws) (L2.wipe σ ws) Dd ∧ compL g ws cnd f (xs.drop (i + 1)) acc ρ = .ok ds ρ2 := by
        intro ρ4 G4 H4 s4 e4 S4 run
        refine ⟨π, ρ4, G4, S4, ?_⟩
        cases y : f ρ4 with
        | ok d' ρ5 =>
          rw [y] at run
          have run : (if acc.length < line then compL g ws cnd f (xs.drop (i + 1)) (acc ++ [d']) ρ5 else .st) = .ok ds ρ2 := run
          split at run
          · rename_i hl
            intro G5 H5 s5 e5 S5 w r5
            have eAll := (e'.trans e4).trans e5
            obtain ⟨hD5, oD5, gD5⟩ := eAll Dd _ hd od
            obtain ⟨S6, e6⟩ := S5.wipeσ ws
            rw [hσ] at S6 e6
            obtain ⟨_, oD6, _⟩ := e6 Dd _ hD5 oD5
            have sAll := (gr.g.trans s4).trans s5
            have hll : av.length < sizeLine := by rw [ra.length, ← line_eq]; exact hl
            refine ⟨av, hD5, hll, ρ5, G5, acc ++ [d'], av ++ [w], S6.apart (gD5 gd) oD6, s.trans sAll, fun b o hb n => ?_, upd_same, (Reps.mono sAll _ _ ra).append (.cons r5 .nil), gD5 gd, oD6, run⟩
            obtain ⟨a1, a2, a3⟩ := ((e.trans eAll).trans e6) b o hb n
            refine ⟨?_, a2, a3⟩
            rw [upd_ne (fun z => by subst z; rw [hD] at hb; cases hb)]
            exact a1
          · cases run
        | rz x ρ5 => rw [y] at run; cases run
        | st => rw [y] at run; cases run
      cases cnd with
      | none =>
        have key : ∀ {Q : Bool → Hp → Prop}, Q true H' → rT X.K c.in none σ' H' Q := fun q => q
        refine key ?_
        exact iteT (elem (Same.refl _) e3 S3 run)
      | some cf =>
        simp only at run
        refine ⟨π, ρ3, Gi, S3, ?_⟩
        cases y : cf ρ3 with
        | ok bd ρ4 =>
          rw [y] at run
          intro G4 H4 s4 e4 S4
          cases bd with
          | bl kb =>
            refine ⟨kb, rfl, ?_⟩
            cases kb with
            | true =>
              rw [if_pos rfl]
              exact elem s4 (e3.trans e4) S4 run
            | false =>
              rw [if_neg Bool.false_ne_true]
              have eAll := (e'.trans e3).trans e4
              obtain ⟨hD5, oD5, gD5⟩ := eAll Dd _ hd od
              obtain ⟨S6, e6⟩ := S4.wipeσ ws
              rw [hσ] at S6 e6
              obtain ⟨_, oD6, _⟩ := e6 Dd _ hD5 oD5
              have sAll := gr.g.trans s4
              exact ⟨ρ4, G4, acc, av, S6, s.trans sAll, (e.trans eAll).trans e6, hD5, Reps.mono sAll _ _ ra, gD5 gd, oD6, run⟩
          | _ => cases run
        | rz x ρ5 => rw [y] at run; cases run
        | st => rw [y] at run; cases run
  · rintro H ⟨ρ, G, acc, av, S, s, e, hd, ra, gd, od, run⟩
    rw [List.drop_length] at run
    unfold compL at run
    cases run
    obtain ⟨S2, o2⟩ := S1.unwipe s S
    refine k1 G H Dd av s (fun b o hb n => ?_) S2 hd ra gd (fun z => od (o2 Dd z)) hD
    obtain ⟨a1, a2, a3⟩ := (ew.trans e) b o hb n
    exact ⟨a1, fun z => a2 (o2 b z), a3⟩
/-- what eComp leaves of it -/
theorem q_comp {g : Tg} {ws : List Nat} {cnd : Option Ev} {f : Ev} {σ : St} {H : Hp} {Q : VK} {J : D → Env → Hp → Hp → Prop} {π : Nat → Addr} {ρ : Env} {G : Hp} (S : SE X.K π ρ G σ H) (k : Po X.K c π ρ G σ H (eComp g ws it cnd f ρ) J)
    (hJ : ∀ ds (ρ1 ρ2 : Env) (G1 H1 G2 H2 : Hp) (Dd : Addr) (vs : List V), Same G G1 → Ext ρ σ G H ρ1 σ G1 H1 → Same G1 G2 → Ext ρ1 σ G1 H1 ρ2 σ G2 H2 → SE X.K π ρ2 G2 σ H2 → H2 Dd = some (.lst vs) → Reps X.K G2 vs ds → G2 Dd = none → ¬ Ownd ρ2 σ Dd → H1 Dd = none →
      Po X.K c π ρ1 G1 σ H1 (.ok (.lst ds) ρ2) J → Q (.ref Dd) H2) :
    ∃ π ρ G, SE X.K π ρ G σ H ∧ Po X.K c π ρ G σ H (it ρ) fun xs ρ1 G1 H1 => ∃ ds ρ2, compL g ws cnd f xs [] ρ1 = .ok ds ρ2 ∧
      ∀ (G2 H2 : Hp) (Dd : Addr) (vs : List V), Same G1 G2 → Ext ρ1 σ G1 H1 (NV.unwipe ρ1 ρ2 ws) σ G2 H2 → SE X.K π (NV.unwipe ρ1 ρ2 ws) G2 σ H2 → H2 Dd = some (.lst vs) → Reps X.K G2 vs ds → G2 Dd = none → ¬ Ownd (NV.unwipe ρ1 ρ2 ws) σ Dd → H1 Dd = none → Q (.ref Dd) H2 := by
  refine ⟨π, ρ, G, S, (Po.bind k).mono fun xs ρ1 G1 H1 s1 e1 S1 k1 => ?_⟩
  cases z : compL g ws cnd f xs [] ρ1 with
  | ok ds ρ2 =>
    simp only [z] at k1
    exact ⟨ds, ρ2, rfl, fun G2 H2 Dd vs s2 e2 S2 h1 h2 h3 h4 h5 => hJ ds ρ1 _ G1 H1 G2 H2 Dd vs s1 e1 s2 e2 S2 h1 h2 h3 h4 h5 k1⟩
  | rz x ρ2 => simp only [z] at k1; exact False.elim k1
  | st => simp only [z] at k1; exact False.elim k1
/-- the new list as a value -/
theorem t_compE {g : Tg} {ws : List Nat} {cnd : Option Ev} {f : Ev} {σ : St} {H : Hp} {Q : VK} (hg : ∀ i ∈ g.slots, i ∈ ws) (q : tE X.K c (eComp g ws it cnd f) σ H Q) : tLc (tI X.K c it) (rG X.K g) (rT X.K c.in cnd) (tE X.K c.in f) ws σ H Q := by
  obtain ⟨π, ρ, G, S, k⟩ := q
  refine t_comp hg (q_comp S k fun ds ρ1 ρ2 G1 H1 G2 H2 Dd vs _ _ s2 e2 S2 h1 h2 h3 h4 h5 k => ?_)
  -- the list joins the values
  have sG : Same G2 (L2.upd G2 Dd (.lst vs)) := Same.new h3
  have S3 : SE X.K π ρ2 (L2.upd G2 Dd (.lst vs)) σ H2 := by
    refine ⟨fun b o hb => ?_, S2.len, fun i s hs => ?_, S2.inj⟩
    · by_cases hb' : b = Dd
      · subst hb'; rw [upd_same] at hb; rw [h1]; exact hb
      · rw [upd_ne hb'] at hb; exact S2.sub _ _ hb
    · have kk := S2.ok i s hs
      cases s with
      | un => trivial
      | v d => obtain ⟨w, e, r⟩ := kk; exact ⟨w, e, r.mono sG _⟩
      | o d =>
        obtain ⟨p, e, a1, a2⟩ := kk
        exact ⟨p, e, by rw [upd_ne (fun z => h4 ⟨i, _, hs, rfl, by rw [← z]; exact e⟩)]; exact a1, a2.mono sG rfl⟩
      | io j d =>
        obtain ⟨e, a1, a2⟩ := kk
        exact ⟨e, by rw [upd_ne (fun z => h4 ⟨i, _, hs, rfl, by rw [← z]; exact e⟩)]; exact a1, a2.mono sG rfl⟩
  refine k _ H2 (s2.trans sG) (fun b o hb n => ?_) S3 _ (.lst upd_same (Reps.mono sG _ _ h2))
  obtain ⟨a1, a2, a3⟩ := e2 b o hb n
  refine ⟨a1, a2, fun z => ?_⟩
  rw [upd_ne (fun z => by subst z; rw [h5] at hb; cases hb)]
  exact a3 z
theorem re_comp {own : List (Str × Nat)} {cnd : Option Ev} {ifs : List Expr} {scope : Scope} {elt : Expr} (hc : X.calm = true) (hN : X.N.Nodup) (hi : PI X tg iter (tI X.K c it)) (ok : blkC X.N X.env.scope scope own = true)
    (hg : ∀ (s : Shared) (H : Hp) (C : Addr) (cl : List (Str × Addr)) (fp : List Addr), PG (X.blk s H scope (compEnvC scope cl C X.env) fp) tg (rG X.K g)) (ht : ∀ (s : Shared) (H : Hp) (C : Addr) (cl : List (Str × Addr)) (fp : List Addr), PTs (X.blk s H scope (compEnvC scope cl C X.env) fp) ifs (rT X.K c.in cnd))
    (he : ∀ (s : Shared) (H : Hp) (C : Addr) (cl : List (Str × Addr)) (fp : List Addr), PE (X.blk s H scope (compEnvC scope cl C X.env) fp) elt (tE X.K c.in f)) (hgs : ∀ i ∈ g.slots, i ∈ own.map (·.2)) (hs : ∀ x, foldedSetIterable iter X.env x = pure x := by intro _; rfl) :
    PE X (.ListComp elt [⟨tg, iter, ifs, 0⟩] scope pos) (tE X.K c (eComp g (own.map (·.2)) it cnd f)) :=
  PE_imp (pe_lc hc hN hi (blkOk_by ok) hg ht he hs) fun σ H Q q => t_compE hgs q
theorem t_compO {g : Tg} {ws : List Nat} {cnd : Option Ev} {f : Ev} {σ : St} {H : Hp} {Q : VK} (hg : ∀ i ∈ g.slots, i ∈ ws) (q : tO X.K c (oComp g ws it cnd f) σ H Q) : tLc (tI X.K c it) (rG X.K g) (rT X.K c.in cnd) (tE X.K c.in f) ws σ H Q := by
  obtain ⟨π, ρ, G, S, k⟩ := q
  have k' := Po.bind k
  refine t_comp hg (q_comp S k' fun ds ρ1 ρ2 G1 H1 G2 H2 Dd vs s1 e1 s2 e2 S2 h1 h2 h3 h4 h5 k => ?_)
  refine k G2 H2 s2 e2 S2 G2 H2 (Same.refl _) Ext.refl S2 _ ⟨Dd, rfl, h3, ⟨vs, h1, h2⟩, h4, ?_⟩
  cases z : H Dd with
  | none => exact .inl rfl
  | some o =>
    by_cases n : Ownd ρ σ Dd
    · exact .inr n
    · obtain ⟨a, _, _⟩ := e1 Dd o z n
      rw [h5] at a; cases a
theorem ro_comp {own : List (Str × Nat)} {cnd : Option Ev} {ifs : List Expr} {scope : Scope} {elt : Expr} (hc : X.calm = true) (hN : X.N.Nodup) (hi : PI X tg iter (tI X.K c it)) (ok : blkC X.N X.env.scope scope own = true)
    (hg : ∀ (s : Shared) (H : Hp) (C : Addr) (cl : List (Str × Addr)) (fp : List Addr), PG (X.blk s H scope (compEnvC scope cl C X.env) fp) tg (rG X.K g)) (ht : ∀ (s : Shared) (H : Hp) (C : Addr) (cl : List (Str × Addr)) (fp : List Addr), PTs (X.blk s H scope (compEnvC scope cl C X.env) fp) ifs (rT X.K c.in cnd))
    (he : ∀ (s : Shared) (H : Hp) (C : Addr) (cl : List (Str × Addr)) (fp : List Addr), PE (X.blk s H scope (compEnvC scope cl C X.env) fp) elt (tE X.K c.in f)) (hgs : ∀ i ∈ g.slots, i ∈ own.map (·.2)) (hs : ∀ x, foldedSetIterable iter X.env x = pure x := by intro _; rfl) :
    PE X (.ListComp elt [⟨tg, iter, ifs, 0⟩] scope pos) (tO X.K c (oComp g (own.map (·.2)) it cnd f)) :=
  PE_imp (pe_lc hc hN hi (blkOk_by ok) hg ht he hs) fun σ H Q q => t_compO hgs q
/-- name = [..] -/
theorem rs_setC (i : Nat) {y : Str} {py spos : Pos} {own : List (Str × Nat)} {cnd : Option Ev} {ifs : List Expr} {scope : Scope} {elt : Expr} (hc : X.calm = true) (hN : X.N.Nodup) (hy : X.N[i]? = some y) (hyl : X.env.scope.names.lookup y = some .local)
    (hsw : swapsWith (.ListComp elt [⟨tg, iter, ifs, 0⟩] scope pos) (some (.Name y py)) spos.line X.env = pure true) (hi : PI X tg iter (tI X.K c it)) (ok : blkC X.N X.env.scope scope own = true)
    (hg : ∀ (s : Shared) (H : Hp) (C : Addr) (cl : List (Str × Addr)) (fp : List Addr), PG (X.blk s H scope (compEnvC scope cl C X.env) fp) tg (rG X.K g)) (ht : ∀ (s : Shared) (H : Hp) (C : Addr) (cl : List (Str × Addr)) (fp : List Addr), PTs (X.blk s H scope (compEnvC scope cl C X.env) fp) ifs (rT X.K c.in cnd))
    (he : ∀ (s : Shared) (H : Hp) (C : Addr) (cl : List (Str × Addr)) (fp : List Addr), PE (X.blk s H scope (compEnvC scope cl C X.env) fp) elt (tE X.K c.in f)) (hgs : ∀ i ∈ g.slots, i ∈ own.map (·.2)) (hs : ∀ x, foldedSetIterable iter X.env x = pure x := by intro _; rfl) :
    PS X (.Assign [.Name y py] (.ListComp elt [⟨tg, iter, ifs, 0⟩] scope pos) spos) (tS X.K c (sSet i (eComp g (own.map (·.2)) it cnd f))) :=
  PS_imp (ps_setLc hc hN hy hyl hsw hi (blkOk_by ok) hg ht he hs) fun D σ H q => t_compE hgs (by
    obtain ⟨π, ρ, G, S, k⟩ := q
    refine ⟨π, ρ, G, S, (PoS.bind k).mono fun d1 ρ1 G1 H1 _ _ S1 k1 w1 r1 => ?_⟩
    obtain ⟨S2, e2⟩ := S1.set r1 i
    exact k1 _ G1 H1 (Same.refl _) e2 S2)
theorem rs_ownC (i : Nat) {y : Str} {py spos : Pos} {own : List (Str × Nat)} {cnd : Option Ev} {ifs : List Expr} {scope : Scope} {elt : Expr} (hc : X.calm = true) (hN : X.N.Nodup) (hy : X.N[i]? = some y) (hyl : X.env.scope.names.lookup y = some .local)
    (hsw : swapsWith (.ListComp elt [⟨tg, iter, ifs, 0⟩] scope pos) (some (.Name y py)) spos.line X.env = pure true) (hi : PI X tg iter (tI X.K c it)) (ok : blkC X.N X.env.scope scope own = true)
    (hg : ∀ (s : Shared) (H : Hp) (C : Addr) (cl : List (Str × Addr)) (fp : List Addr), PG (X.blk s H scope (compEnvC scope cl C X.env) fp) tg (rG X.K g)) (ht : ∀ (s : Shared) (H : Hp) (C : Addr) (cl : List (Str × Addr)) (fp : List Addr), PTs (X.blk s H scope (compEnvC scope cl C X.env) fp) ifs (rT X.K c.in cnd))
    (he : ∀ (s : Shared) (H : Hp) (C : Addr) (cl : List (Str × Addr)) (fp : List Addr), PE (X.blk s H scope (compEnvC scope cl C X.env) fp) elt (tE X.K c.in f)) (hgs : ∀ i ∈ g.slots, i ∈ own.map (·.2)) (hs : ∀ x, foldedSetIterable iter X.env x = pure x := by intro _; rfl) :
    PS X (.Assign [.Name y py] (.ListComp elt [⟨tg, iter, ifs, 0⟩] scope pos) spos) (tS X.K c (sOwn i (oComp g (own.map (·.2)) it cnd f))) :=
  PS_imp (ps_setLc hc hN hy hyl hsw hi (blkOk_by ok) hg ht he hs) fun D σ H q => t_compO hgs (by
    obtain ⟨π, ρ, G, S, k⟩ := q
    refine ⟨π, ρ, G, S, ?_⟩
    unfold sOwn at k
    cases z : oComp g (own.map (·.2)) it cnd f ρ with
    | ok r ρ' =>
      rw [z] at k
      intro G' H' s' e' S' w rr
      obtain ⟨S2, e2⟩ := S'.setR rr e' i
      exact k _ G' H' s' e2 S2
    | rz x ρ' => rw [z] at k; exact fun cls d G' H' s' e' S' z => k cls d σ G' H' s' e' S' z
    | st => rw [z] at k; exact k)
theorem rts_nil : PTs X [] (rT X.K c none) := pts_nil
theorem rts_one (h : PT X a (tT X.K c f)) : PTs X [a] (rT X.K c (some f)) := pts_one h
end
end NV

set_option Elab.async false
set_option linter.all false
set_option maxRecDepth 100000
set_option maxHeartbeats 4000000
/-! Lay9: own lists and dicts that turn; looking at them. -/
namespace NV
open PySem PySem.Spec PyProof.Rows L2
def Sl.setD : Sl → D → Sl
  | .o _, d => .o d
  | .io k _, d => .io k d
  | s, _ => s
section
variable {K : PySem.W.Frag} {π : Nat → Addr} {ρ ρ1 ρ' : Env} {G G1 G' : Hp} {σ σ1 σ' : St} {H H1 H' : Hp} {c : Lv} {α β : Type}
theorem SE.at_own (S : SE K π ρ G σ H) {i : Nat} {s : Sl} {d : D} (e : ρ[i]? = some s) (hs : s = .o d ∨ ∃ k, s = .io k d) : ∃ p, σ[i]? = some (some (.ref p)) ∧ G p = none ∧ Own K G H p d := by
  have k := S.ok i s e
  rcases hs with rfl | ⟨j, rfl⟩
  · exact k
  · exact ⟨_, k⟩
/-- an own object turned -/
theorem SE.turn (S : SE K π ρ G σ H) {i : Nat} {s : Sl} {d d' : D} {p : Addr} {ob : HO} (e : ρ[i]? = some s) (hs : s = .o d ∨ ∃ k, s = .io k d) (hp : σ[i]? = some (some (.ref p))) (ow : Own K G (L2.upd H p ob) p d') :
    SE K π (ρ.set i (s.setD d')) G σ (L2.upd H p ob) ∧ Ext ρ σ G H (ρ.set i (s.setD d')) σ G (L2.upd H p ob) := by
  have so : s.owned = true := by rcases hs with rfl | ⟨_, rfl⟩ <;> rfl
  have so' : (s.setD d').owned = true := by rcases hs with rfl | ⟨_, rfl⟩ <;> rfl
  obtain ⟨p', hp', gp, _⟩ := S.at_own e hs
  have ep : p' = p := by rw [hp] at hp'; exact (V.ref.inj (Option.some.inj (Option.some.inj hp'))).symm
  subst ep
  have oth : ∀ {j : Nat} {t : Sl} {b : Addr}, j ≠ i → ρ[j]? = some t → t.owned = true → σ[j]? = some (some (.ref b)) → b ≠ p' := fun {j t b} n h o hb z => n (S.inj j i b t s h e o so hb (by rw [z]; exact hp))
  refine ⟨⟨fun b x hb => ?_, by rw [List.length_set]; exact S.len, fun j t h => ?_, fun j k b t u h1 h2 o1 o2 q1 q2 => ?_⟩, fun b x hb n => ?_⟩
  · rw [upd_ne (fun z => by subst z; rw [gp] at hb; cases hb)]
    exact S.sub _ _ hb
  · rcases getset h with ⟨rfl, _, rfl⟩ | ⟨n, h⟩
    · rcases hs with rfl | ⟨k, rfl⟩
      · exact ⟨p', hp, gp, ow⟩
      · have k' := S.ok j _ e
        have e2 : π k = p' := by
          have := k'.1
          rw [hp] at this
          exact (V.ref.inj (Option.some.inj (Option.some.inj this))).symm
        show σ[j]? = some (some (.ref (π k))) ∧ G (π k) = none ∧ Own K G _ (π k) d'
        rw [e2]
        exact ⟨hp, gp, ow⟩
    · have k := S.ok j t h
      cases t with
      | un => trivial
      | v d => exact k
      | o d =>
        obtain ⟨q, e1, g1, o1⟩ := k
        exact ⟨q, e1, g1, o1.mono (Same.refl _) (upd_ne (oth n h rfl e1))⟩
      | io m d =>
        obtain ⟨e1, g1, o1⟩ := k
        exact ⟨e1, g1, o1.mono (Same.refl _) (upd_ne (oth n h rfl e1))⟩
  · have ox : ∀ {j : Nat} {t : Sl}, (ρ.set i (s.setD d'))[j]? = some t → t.owned = true → ∃ t', ρ[j]? = some t' ∧ t'.owned = true := fun {j t} h o => by
      rcases getset h with ⟨rfl, _, rfl⟩ | ⟨_, h⟩
      · exact ⟨s, e, so⟩
      · exact ⟨t, h, o⟩
    obtain ⟨t1, a1, b1⟩ := ox h1 o1
    obtain ⟨t2, a2, b2⟩ := ox h2 o2
    exact S.inj j k b t1 t2 a1 a2 b1 b2 q1 q2
  · have hb' : b ≠ p' := fun z => n ⟨i, s, e, so, by rw [z]; exact hp⟩
    refine ⟨by rw [upd_ne hb']; exact hb, fun ⟨j, t, h1, o1, h2⟩ => ?_, fun z => z⟩
    rcases getset h1 with ⟨rfl, _, rfl⟩ | ⟨m, h1⟩
    · rw [hp] at h2
      exact hb' (V.ref.inj (Option.some.inj (Option.some.inj h2))).symm
    · exact n ⟨j, t, h1, o1, h2⟩
/-- what chg says, taken apart -/
theorem chg_of {i : Nat} {h : D → Option D} {D' : Ends} (S : SE K π ρ G σ H) (k : PoS K c π ρ G σ H (chg i h ρ) D') : ∃ s d d' p, ρ[i]? = some s ∧ (s = .o d ∨ ∃ j, s = .io j d) ∧ h d = some d' ∧ σ[i]? = some (some (.ref p)) ∧ G p = none ∧ Own K G H p d ∧
    ∀ ob, Own K G (L2.upd H p ob) p d' → D'.nx σ (L2.upd H p ob) := by
  unfold chg at k
  cases e : ρ[i]? with
  | none => rw [e] at k; exact False.elim k
  | some s =>
    rw [e] at k
    cases s with
    | o d =>
      simp only at k
      cases z : h d with
      | none => rw [z] at k; exact False.elim k
      | some d' =>
        rw [z] at k
        obtain ⟨p, h1, h2, h3⟩ := S.at_own e (.inl rfl)
        refine ⟨_, d, d', p, rfl, .inl rfl, z, h1, h2, h3, fun ob ow => ?_⟩
        obtain ⟨S2, e2⟩ := S.turn e (.inl rfl) h1 ow
        exact k σ G _ (Same.refl _) e2 S2
    | io j d =>
      simp only at k
      cases z : h d with
      | none => rw [z] at k; exact False.elim k
      | some d' =>
        rw [z] at k
        obtain ⟨p, h1, h2, h3⟩ := S.at_own e (.inr ⟨j, rfl⟩)
        refine ⟨_, d, d', p, rfl, .inr ⟨j, rfl⟩, z, h1, h2, h3, fun ob ow => ?_⟩
        obtain ⟨S2, e2⟩ := S.turn e (.inr ⟨j, rfl⟩) h1 ow
        exact k σ G _ (Same.refl _) e2 S2
    | _ => exact False.elim k
theorem isO_of (S : SE K π ρ G σ H) {i : Nat} (h : isO ρ i = true) : ∃ p xs ws, held ρ i = some (.lst xs) ∧ σ[i]? = some (some (.ref p)) ∧ G p = none ∧ H p = some (.lst ws) ∧ Reps K G ws xs := by
  unfold isO at h
  cases e : ρ[i]? with
  | none => rw [e] at h; cases h
  | some s =>
    rw [e] at h
    cases s with
    | o d =>
      cases d with
      | lst xs =>
        obtain ⟨p, h1, h2, ws, h3, h4⟩ := S.at_own e (.inl rfl)
        exact ⟨p, xs, ws, by unfold held; rw [e], h1, h2, h3, h4⟩
      | _ => cases h
    | io k d =>
      cases d with
      | lst xs =>
        obtain ⟨p, h1, h2, ws, h3, h4⟩ := S.at_own e (.inr ⟨k, rfl⟩)
        exact ⟨p, xs, ws, by unfold held; rw [e], h1, h2, h3, h4⟩
      | _ => cases h
    | _ => cases h
theorem isD_of (S : SE K π ρ G σ H) {i : Nat} (h : isD ρ i = true) : ∃ p es ws, held ρ i = some (.dct es) ∧ σ[i]? = some (some (.ref p)) ∧ G p = none ∧ H p = some (.dK ws) ∧ RepK K G ws es := by
  unfold isD at h
  cases e : ρ[i]? with
  | none => rw [e] at h; cases h
  | some s =>
    rw [e] at h
    cases s with
    | o d =>
      cases d with
      | dct xs =>
        obtain ⟨p, h1, h2, ws, h3, h4⟩ := S.at_own e (.inl rfl)
        exact ⟨p, xs, ws, by unfold held; rw [e], h1, h2, h3, h4⟩
      | _ => cases h
    | io k d =>
      cases d with
      | dct xs =>
        obtain ⟨p, h1, h2, ws, h3, h4⟩ := S.at_own e (.inr ⟨k, rfl⟩)
        exact ⟨p, xs, ws, by unfold held; rw [e], h1, h2, h3, h4⟩
      | _ => cases h
    | _ => cases h
theorem held_of (S : SE K π ρ G σ H) {i : Nat} {d : D} (h : held ρ i = some d) : ∃ p, σ[i]? = some (some (.ref p)) ∧ G p = none ∧ Own K G H p d := by
  unfold held at h
  cases e : ρ[i]? with
  | none => rw [e] at h; cases h
  | some s =>
    rw [e] at h
    cases s with
    | o d' => obtain rfl := Option.some.inj h; exact S.at_own e (.inl rfl)
    | io k d' => obtain rfl := Option.some.inj h; exact S.at_own e (.inr ⟨k, rfl⟩)
    | _ => cases h
/-- own lists given up -/
theorem SE.freeze (S : SE K π ρ G σ H) (P : Nat → Bool) (F : Nat → Sl → Sl) (hF : ∀ i s, F i s = if P i then s.frz else s) {ρ' : Env} (hρ : ∀ i, ρ'[i]? = (ρ[i]?).map (F i)) (hl : ρ'.length = ρ.length) :
    ∃ G', Same G G' ∧ (∀ i s b, ρ[i]? = some s → s.owned = true → P i = true → σ[i]? = some (some (.ref b)) → G' b = H b) ∧ Same G' H ∧ SE K π ρ' G' σ H ∧ Ext ρ σ G H ρ' σ G' H := by
  classical
  let fz : Addr → Prop := fun b => ∃ i s, ρ[i]? = some s ∧ s.owned = true ∧ P i = true ∧ σ[i]? = some (some (.ref b))
  let G' : Hp := fun b => if fz b then H b else G b
  have gz : ∀ b, fz b → G' b = H b := fun b h => if_pos h
  have gn : ∀ b, ¬ fz b → G' b = G b := fun b h => if_neg h
  have fown : ∀ b, fz b → Ownd ρ σ b := fun b ⟨i, s, h1, h2, _, h4⟩ => ⟨i, s, h1, h2, h4⟩
  have sG : Same G G' := fun b o h => by
    rw [gn b fun z => S.notown h (fown b z)]
    exact h
  have sH : Same G' H := fun b o h => by
    by_cases z : fz b
    · rw [gz b z] at h; exact h
    · rw [gn b z] at h; exact S.sub _ _ h
  have back : ∀ {i : Nat} {t : Sl}, ρ'[i]? = some t → ∃ s, ρ[i]? = some s ∧ t = if P i then s.frz else s := fun {i t} h => by
    rw [hρ i] at h
    cases e : ρ[i]? with
    | none => rw [e] at h; cases h
    | some s =>
      rw [e] at h
      exact ⟨s, rfl, by rw [← hF]; exact (Option.some.inj h).symm⟩
  have own' : ∀ {i : Nat} {t : Sl}, ρ'[i]? = some t → t.owned = true → ρ[i]? = some t ∧ P i = false := fun {i t} h o => by
    obtain ⟨s, h1, h2⟩ := back h
    by_cases hp : P i = true
    · rw [if_pos hp] at h2
      subst h2
      cases s <;> cases o
    · rw [if_neg hp] at h2
      subst h2
      exact ⟨h1, by simpa using hp⟩
  have nfz : ∀ {i : Nat} {t : Sl} {b : Addr}, ρ[i]? = some t → t.owned = true → P i = false → σ[i]? = some (some (.ref b)) → ¬ fz b := fun {i t b} h o hp hb ⟨j, s, h1, h2, h3, h4⟩ => by
    have := S.inj i j b t s h h1 o h2 hb h4
    subst this
    rw [hp] at h3; cases h3
  refine ⟨G', sG, fun i s b h o hp hb => gz b ⟨i, s, h, o, hp, hb⟩, sH, ⟨sH, hl.trans S.len, fun i t h => ?_, fun i j b s t h1 h2 o1 o2 q1 q2 => ?_⟩, fun b o hb n => ⟨hb, fun ⟨i, t, h1, o1, h2⟩ => n ⟨i, t, (own' h1 o1).1, o1, h2⟩, fun z => ?_⟩⟩
  · obtain ⟨s, h1, h2⟩ := back h
    have k := S.ok i s h1
    by_cases hp : P i = true
    · rw [if_pos hp] at h2
      subst h2
      have conv : ∀ d p, σ[i]? = some (some (.ref p)) → s.owned = true → Own K G H p d → Rep K G' (.ref p) d := fun d p hq hs ow => by
        have e : G' p = H p := gz p ⟨i, s, h1, hs, hp, hq⟩
        cases d with
        | lst ds => obtain ⟨ws, a1, a2⟩ := ow; exact .lst (by rw [e]; exact a1) (Reps.mono sG _ _ a2)
        | dct ds => obtain ⟨ws, a1, a2⟩ := ow; exact .dct (by rw [e]; exact a1) (RepK.mono sG _ _ a2)
        | _ => exact False.elim ow
      cases s with
      | un => trivial
      | v d => obtain ⟨w, e, r⟩ := k; exact ⟨w, e, r.mono sG _⟩
      | o d => obtain ⟨p, e, _, ow⟩ := k; exact ⟨_, e, conv d p e rfl ow⟩
      | io j d => obtain ⟨e, _, ow⟩ := k; exact ⟨_, e, conv d _ e rfl ow⟩
    · rw [if_neg hp] at h2
      subst h2
      have hp' : P i = false := by simpa using hp
      cases t with
      | un => trivial
      | v d => obtain ⟨w, e, r⟩ := k; exact ⟨w, e, r.mono sG _⟩
      | o d => obtain ⟨p, e, g, ow⟩ := k; exact ⟨p, e, by rw [gn p (nfz h1 rfl hp' e)]; exact g, ow.mono sG rfl⟩
      | io j d => obtain ⟨e, g, ow⟩ := k; exact ⟨e, by rw [gn _ (nfz h1 rfl hp' e)]; exact g, ow.mono sG rfl⟩
  · exact S.inj i j b s t (own' h1 o1).1 (own' h2 o2).1 o1 o2 q1 q2
  · rw [gn b fun q => n (fown b q)]
    exact z
theorem SE.frzAll (S : SE K π ρ G σ H) : ∃ G', Same G G' ∧ (∀ b, Ownd ρ σ b → G' b = H b) ∧ SE K π (ρ.map Sl.frz) G' σ H ∧ Ext ρ σ G H (ρ.map Sl.frz) σ G' H := by
  obtain ⟨G', h1, h2, _, h3, h4⟩ := S.freeze (fun _ => true) (fun _ s => s.frz) (fun i s => by rw [if_pos rfl]) (ρ' := ρ.map Sl.frz) (fun i => by rw [List.getElem?_map]) (by rw [List.length_map])
  exact ⟨G', h1, fun b ⟨i, s, a1, a2, a3⟩ => h2 i s b a1 a2 rfl a3, h3, h4⟩
theorem SE.frz1 (S : SE K π ρ G σ H) (i : Nat) : ∃ G', Same G G' ∧ SE K π (NV.frz1 ρ i) G' σ H ∧ Ext ρ σ G H (NV.frz1 ρ i) σ G' H := by
  by_cases h : ∃ d, ρ[i]? = some (.o d)
  · obtain ⟨d, e⟩ := h
    have hr : NV.frz1 ρ i = ρ.set i (.v d) := by unfold NV.frz1; rw [e]
    obtain ⟨G', h1, _, _, h3, h4⟩ := S.freeze (fun j => decide (j = i)) (fun j s => if j = i then s.frz else s) (fun j s => by simp) (ρ' := NV.frz1 ρ i) (fun j => by
      rw [hr]
      have hl : i < ρ.length := (List.getElem?_eq_some_iff.mp e).1
      by_cases hj : j = i
      · subst hj
        rw [List.getElem?_set_self hl, e]
        simp [Sl.frz]
      · rw [List.getElem?_set_ne (Ne.symm hj)]
        cases ρ[j]? <;> simp [hj]) (by rw [hr, List.length_set])
    exact ⟨G', h1, h3, h4⟩
  · have hr : NV.frz1 ρ i = ρ := by
      unfold NV.frz1
      split
      · rename_i d e; exact absurd ⟨d, e⟩ h
      · rfl
    rw [hr]
    exact ⟨G, Same.refl _, S, Ext.refl⟩
end

section
variable {X : Cx} {c : Lv} {a b e : Expr} {es : List Expr} {f h l : Ev} {r : Ea} {pos p apos cpos : Pos} {x : Str} {i : Nat}
/-- all own lists looked at as values -/
theorem thaw_po {σ : St} {H : Hp} {π : Nat → Addr} {ρ : Env} {G : Hp} {J J' : D → Env → Hp → Hp → Prop} (S : SE X.K π ρ G σ H) (k : Po X.K c π ρ G σ H (eThaw f ρ) J) (hJ : ∀ d G1 G2 ρ2 H2, d.flat = true → J d ρ G1 H2 → J' d ρ2 G2 H2) :
    ∃ π ρ G, SE X.K π ρ G σ H ∧ Po X.K c π ρ G σ H (f ρ) J' := by
  obtain ⟨GF, s1, h2, S1, e1⟩ := S.frzAll
  refine ⟨π, _, GF, S1, ?_⟩
  unfold eThaw at k
  -- behind it the def's slots stand as they stood
  have stand : ∀ {ρ2 : Env} {G2 H2 : Hp}, Same GF G2 → Ext (ρ.map Sl.frz) σ GF H ρ2 σ G2 H2 → SE X.K π ρ2 G2 σ H2 → SE X.K π ρ G σ H2 ∧ Ext ρ σ G H ρ σ G H2 := fun {ρ2 G2 H2} s2 e2 S2 => by
    have hk : ∀ b, Ownd ρ σ b → H2 b = H b := fun b hb => by
      obtain ⟨_, o, ho⟩ := S.own hb
      have : GF b = some o := (h2 b hb).trans ho
      rw [S2.sub _ _ (s2 _ _ this), ho]
    refine ⟨⟨(s1.trans s2).trans S2.sub, S.len, fun j s hs => ?_, S.inj⟩, fun b o hb n => ?_⟩
    · have kk := S.ok j s hs
      cases s with
      | un => trivial
      | v d => exact kk
      | o d => obtain ⟨q, a1, a2, a3⟩ := kk; exact ⟨q, a1, a2, a3.mono (Same.refl _) (hk q ⟨j, _, hs, rfl, a1⟩)⟩
      | io m d => obtain ⟨a1, a2, a3⟩ := kk; exact ⟨a1, a2, a3.mono (Same.refl _) (hk _ ⟨j, _, hs, rfl, a1⟩)⟩
    · obtain ⟨a1, a2, _⟩ := (e1.trans e2) b o hb n
      exact ⟨a1, n, fun z => z⟩
  cases z : f (ρ.map Sl.frz) with
  | ok d ρ2 =>
    rw [z] at k
    simp only at k
    intro G2 H2 s2 e2 S2
    obtain ⟨S3, e3⟩ := stand s2 e2 S2
    split at k
    · rename_i hf
      exact hJ d _ _ _ _ hf (k G H2 (Same.refl _) e3 S3)
    · exact False.elim k
  | rz x ρ2 => rw [z] at k; exact False.elim k
  | st => rw [z] at k; exact False.elim k
theorem re_thaw (h : PE X e (tE X.K c f)) : PE X e (tE X.K c (eThaw f)) := PE_imp h fun _ _ _ q => by
  obtain ⟨π, ρ, G, S, k⟩ := q
  exact thaw_po S k fun d G1 G2 ρ2 H2 hf q w r => q w (r.flat hf _)
theorem rt_thaw (h : PT X e (tT X.K c f)) : PT X e (tT X.K c (eThaw f)) := PT_imp h fun σ H Q q => by
  obtain ⟨π, ρ, G, S, k⟩ := q
  exact thaw_po S k fun d G1 G2 ρ2 H2 hf q => q
theorem re_frz (i : Nat) (h : PE X e (tE X.K c f)) : PE X e (tE X.K c (eFrz i f)) := PE_imp h fun σ H Q q => by
  obtain ⟨π, ρ, G, S, k⟩ := q
  obtain ⟨GF, s1, S1, e1⟩ := S.frz1 i
  exact ⟨π, _, GF, S1, Po.step s1 e1 k⟩
end
end NV

set_option Elab.async false
set_option linter.all false
set_option maxRecDepth 100000
set_option maxHeartbeats 4000000
/-! Lay10: own lists: the rules; calls of defs; a def's promise. -/
namespace NV
open PySem PySem.Spec PyProof.Rows L2
section
variable {X : Cx} {c : Lv} {a b e : Expr} {es : List Expr} {f h l : Ev} {r : Ea} {pos p apos cpos pos' tpos : Pos} {x : Str}
theorem Reps.snoc {K : PySem.W.Frag} {H : Hp} {vs : List V} {ds : List D} {v : V} {d : D} (h : Reps K H vs ds) (r : Rep K H v d) : Reps K H (vs ++ [v]) (ds ++ [d]) := h.append (.cons r .nil)
/-- x[a], x the def's own -/
theorem re_ixO (i : Nat) (hu : X.A.units + 1 < cLine) (hN : X.N[i]? = some x) (hv : Vis X.env.scope x) (hb : PE X b (tE X.K c f)) (hs : PlainIx b := by exact fun _ _ => rfl) (hd : (x == ("__debug__" : Str)) = false := by decide) (hcd : (x == ("__classdict__" : Str)) = false := by decide) :
    PE X (.Subscript (.Name x p) b pos) (tE X.K c (eIxO i f)) := PE_imp (pe_ix ixr_U (pe_var hN hv hd hcd) hb hs) fun σ H Q q => by
  obtain ⟨π, ρ, G, S, k⟩ := q
  unfold eIxO at k
  by_cases hO : isO ρ i = true
  · rw [if_pos hO] at k
    obtain ⟨pa, xs, ws, h1, h2, h3, h4, h5⟩ := isO_of S hO
    refine ⟨.ref pa, h2, π, ρ, G, S, (Po.bind k).mono fun d1 ρ1 G1 H1 _ _ S1 k1 w1 r1 => ?_⟩
    cases z : held ρ1 i with
    | none => simp only [z] at k1; exact False.elim k1
    | some d =>
      cases d with
      | lst ys =>
        simp only [z] at k1
        obtain ⟨p', a1, a2, ws', a3, a4⟩ := held_of S1 z
        have ep : p' = pa := by rw [h2] at a1; exact (V.ref.inj (Option.some.inj (Option.some.inj a1))).symm
        subst ep
        obtain ⟨d', e⟩ := some_of k1
        have fin := fin_of S1 e k1
        cases r1 with
        | int j =>
          obtain ⟨j', e1, e2⟩ := at_len a4.length (show NV.at? _ j = some d' from e)
          obtain ⟨v, e3, r⟩ := a4.get e1
          exact rUI_of ix_list ⟨_, _, j, v, rfl, rfl, SqL.of a3, e2 v e3, fin v G1 H1 (Grow.refl S1.sub) r⟩
        | _ => simp [opIx] at e
      | _ => simp only [z] at k1; exact False.elim k1
  · rw [if_neg hO] at k
    by_cases hD : isD ρ i = true
    · rw [if_pos hD] at k
      obtain ⟨pa, xs, ws, h1, h2, h3, h4, h5⟩ := isD_of S hD
      refine ⟨.ref pa, h2, π, ρ, G, S, (Po.bind k).mono fun d1 ρ1 G1 H1 _ _ S1 k1 w1 r1 => ?_⟩
      cases z : held ρ1 i with
      | none => simp only [z] at k1; exact False.elim k1
      | some d =>
        cases d with
        | dct ys =>
          simp only [z] at k1
          obtain ⟨p', a1, a2, ws', a3, a4⟩ := held_of S1 z
          have ep : p' = pa := by rw [h2] at a1; exact (V.ref.inj (Option.some.inj (Option.some.inj a1))).symm
          subst ep
          obtain ⟨d', e⟩ := some_of k1
          have fin := fin_of S1 e k1
          cases r1 with
          | str z =>
            obtain ⟨v, e1, r⟩ := (valV_of (k := z) a4).2 d' (show look z ys = some d' from e)
            intro value slice pins s' σ v' u I rx ry hs
            obtain rfl : v' = Value.ref _ := rx
            have g : DGet H1 p' (.str (ofL z)) (some v) := by
              have g := DGet.k (k := .inr (ofL z)) a3
              rw [e1] at g
              exact g
            exact tail_any (dict_typeIs I g) PySem.F.slot_dict_getitem.lookup (d_getItem hu I g ry fun w' s3 I3 rw' => ⟨v, H1, I3, rw', fin v G1 H1 (Grow.refl S1.sub) r⟩) hs
          | _ => simp [opIx] at e
        | _ => simp only [z] at k1; exact False.elim k1
    · rw [if_neg hD] at k
      exact False.elim k
/-- xs.append(e) -/
theorem rs_append (i : Nat) (hN : X.N[i]? = some x) (hv : Vis X.env.scope x) (he : PE X e (tE X.K c f)) (hs : starEach [e] X.env = (false, eval e X.env) :: starEach [] X.env := by rfl)
    (hfew : ((backTo cpos (starEach [e] X.env)).all (fun x => !x.1) && (backToKw cpos (keywordEach [] X.env)).all (fun x => x.1.isSome) && decide ([e].length + ([] : List Keyword).length + (if ([] : List Keyword).isEmpty then 0 else 1) < 30)) = true := by rfl)
    (hline : (apos.endLine == cpos.line) = true := by rfl) (hsw : swapsWith (.Call (.Attribute (.Name x p) "append" apos) [e] [] cpos) none pos.line X.env = pure false := by rfl) (hd : (x == ("__debug__" : Str)) = false := by decide) (hcd : (x == ("__classdict__" : Str)) = false := by decide)
    (hbase : attributeBase (.Name x p) "append" X.env (eval (.Name x p) X.env) = eval (.Name x p) X.env := by rfl) :
    PS X (.Expr (.Call (.Attribute (.Name x p) "append" apos) [e] [] cpos) pos) (tS X.K c (sAppend i f)) :=
  PS_imp (ps_expr (pe_bm PySem.F.plainAttrs_list PySem.F.slot_list_append PySem.F.type_list_append mt_append (pe_var hN hv hd hcd) (pa_cons he pa_nil hs) hbase hfew hline hs rfl) hsw) fun D σ H q => by
    obtain ⟨π, ρ, G, S, k⟩ := q
    unfold sAppend at k
    by_cases hO : isO ρ i = true
    · rw [if_pos hO] at k
      obtain ⟨pa, xs, ws, h1, h2, h3, h4, h5⟩ := isO_of S hO
      refine ⟨.ref pa, h2, .inl ⟨rfl, _, SqL.of h4⟩, π, ρ, G, S, (PoS.bind k).mono fun d1 ρ1 G1 H1 _ _ S1 k1 w1 r1 => ?_⟩
      obtain ⟨s, d, d', p', a1, a2, a3, a4, a5, a6, a7⟩ := chg_of S1 k1
      have ep : p' = pa := by rw [h2] at a4; exact (V.ref.inj (Option.some.inj (Option.some.inj a4))).symm
      subst ep
      cases d with
      | lst ys =>
        simp only [hAppend] at a3
        split at a3
        · rename_i hl
          obtain rfl := Option.some.inj a3
          obtain ⟨vs, b1, b2⟩ := a6
          exact ⟨p', vs, w1, rfl, rfl, b1, by rw [b2.length, ← line_eq]; exact hl, a7 _ ⟨_, upd_same, b2.snoc r1⟩⟩
        · cases a3
      | _ => simp [hAppend] at a3
    · rw [if_neg hO] at k; exact False.elim k
theorem rs_extend (i : Nat) (hN : X.N[i]? = some x) (hv : Vis X.env.scope x) (he : PE X e (tE X.K c f)) (hs : starEach [e] X.env = (false, eval e X.env) :: starEach [] X.env := by rfl)
    (hfew : ((backTo cpos (starEach [e] X.env)).all (fun x => !x.1) && (backToKw cpos (keywordEach [] X.env)).all (fun x => x.1.isSome) && decide ([e].length + ([] : List Keyword).length + (if ([] : List Keyword).isEmpty then 0 else 1) < 30)) = true := by rfl)
    (hline : (apos.endLine == cpos.line) = true := by rfl) (hsw : swapsWith (.Call (.Attribute (.Name x p) "extend" apos) [e] [] cpos) none pos.line X.env = pure false := by rfl) (hd : (x == ("__debug__" : Str)) = false := by decide) (hcd : (x == ("__classdict__" : Str)) = false := by decide)
    (hbase : attributeBase (.Name x p) "extend" X.env (eval (.Name x p) X.env) = eval (.Name x p) X.env := by rfl) :
    PS X (.Expr (.Call (.Attribute (.Name x p) "extend" apos) [e] [] cpos) pos) (tS X.K c (sExtend i f)) :=
  PS_imp (ps_expr (pe_bm PySem.F.plainAttrs_list PySem.F.slot_list_extend PySem.F.type_list_extend mt_extend (pe_var hN hv hd hcd) (pa_cons he pa_nil hs) hbase hfew hline hs rfl) hsw) fun D σ H q => by
    obtain ⟨π, ρ, G, S, k⟩ := q
    unfold sExtend at k
    by_cases hO : isO ρ i = true
    · rw [if_pos hO] at k
      obtain ⟨pa, xs, ws, h1, h2, h3, h4, h5⟩ := isO_of S hO
      refine ⟨.ref pa, h2, .inl ⟨rfl, _, SqL.of h4⟩, π, ρ, G, S, (PoS.bind k).mono fun d1 ρ1 G1 H1 _ _ S1 k1 w1 r1 => ?_⟩
      obtain ⟨s, d, d', p', a1, a2, a3, a4, a5, a6, a7⟩ := chg_of S1 k1
      have ep : p' = pa := by rw [h2] at a4; exact (V.ref.inj (Option.some.inj (Option.some.inj a4))).symm
      subst ep
      cases d with
      | lst ys =>
        cases r1 with
        | lst g1 g2 =>
          simp only [hExtend] at a3
          split at a3
          · rename_i hl
            obtain rfl := Option.some.inj a3
            obtain ⟨vs, b1, b2⟩ := a6
            exact ⟨p', _, vs, _, rfl, rfl, b1, S1.sub _ _ g1, by rw [b2.length, g2.length, ← line_eq]; exact hl, a7 _ ⟨_, upd_same, b2.append g2⟩⟩
          · cases a3
        | _ => simp [hExtend] at a3
      | _ => simp [hExtend] at a3
    · rw [if_neg hO] at k; exact False.elim k
theorem rs_clear (i : Nat) (hN : X.N[i]? = some x) (hv : Vis X.env.scope x) (hline : (apos.endLine == cpos.line) = true := by rfl) (hsw : swapsWith (.Call (.Attribute (.Name x p) "clear" apos) [] [] cpos) none pos.line X.env = pure false := by rfl) (hd : (x == ("__debug__" : Str)) = false := by decide) (hcd : (x == ("__classdict__" : Str)) = false := by decide)
    (hbase : attributeBase (.Name x p) "clear" X.env (eval (.Name x p) X.env) = eval (.Name x p) X.env := by rfl) :
    PS X (.Expr (.Call (.Attribute (.Name x p) "clear" apos) [] [] cpos) pos) (tS X.K c (sClear i)) :=
  PS_imp (ps_expr (pe_bm0 PySem.F.plainAttrs_list PySem.F.slot_list_clear PySem.F.type_list_clear mt_clear (pe_var hN hv hd hcd) hbase hline) hsw) fun D σ H q => by
    obtain ⟨π, ρ, G, S, k⟩ := q
    obtain ⟨s, d, d', p', a1, a2, a3, a4, a5, a6, a7⟩ := chg_of S k
    cases d with
    | lst ys =>
      obtain rfl := Option.some.inj a3
      obtain ⟨vs, b1, b2⟩ := a6
      exact ⟨_, a4, .inl ⟨rfl, _, SqL.of b1⟩, p', vs, rfl, rfl, b1, a7 _ ⟨_, upd_same, .nil⟩⟩
    | _ => simp [hClear] at a3
theorem rs_revers (i : Nat) (hN : X.N[i]? = some x) (hv : Vis X.env.scope x) (hline : (apos.endLine == cpos.line) = true := by rfl) (hsw : swapsWith (.Call (.Attribute (.Name x p) "reverse" apos) [] [] cpos) none pos.line X.env = pure false := by rfl) (hd : (x == ("__debug__" : Str)) = false := by decide) (hcd : (x == ("__classdict__" : Str)) = false := by decide)
    (hbase : attributeBase (.Name x p) "reverse" X.env (eval (.Name x p) X.env) = eval (.Name x p) X.env := by rfl) :
    PS X (.Expr (.Call (.Attribute (.Name x p) "reverse" apos) [] [] cpos) pos) (tS X.K c (sRevers i)) :=
  PS_imp (ps_expr (pe_bm0 PySem.F.plainAttrs_list PySem.F.slot_list_reverse PySem.F.type_list_reverse mt_reverse (pe_var hN hv hd hcd) hbase hline) hsw) fun D σ H q => by
    obtain ⟨π, ρ, G, S, k⟩ := q
    obtain ⟨s, d, d', p', a1, a2, a3, a4, a5, a6, a7⟩ := chg_of S k
    cases d with
    | lst ys =>
      obtain rfl := Option.some.inj a3
      obtain ⟨vs, b1, b2⟩ := a6
      exact ⟨_, a4, .inl ⟨rfl, _, SqL.of b1⟩, p', vs, rfl, rfl, b1, a7 _ ⟨_, upd_same, b2.reverse⟩⟩
    | _ => simp [hRev] at a3
/-- xs.pop() -/
theorem re_pop (i : Nat) (hN : X.N[i]? = some x) (hv : Vis X.env.scope x) (hline : (apos.endLine == cpos.line) = true := by rfl) (hd : (x == ("__debug__" : Str)) = false := by decide) (hcd : (x == ("__classdict__" : Str)) = false := by decide)
    (hbase : attributeBase (.Name x p) "pop" X.env (eval (.Name x p) X.env) = eval (.Name x p) X.env := by rfl) :
    PE X (.Call (.Attribute (.Name x p) "pop" apos) [] [] cpos) (tE X.K c (ePop i)) :=
  PE_imp (pe_bm0 PySem.F.plainAttrs_list PySem.F.slot_list_pop PySem.F.type_list_pop mt_pop (pe_var hN hv hd hcd) hbase hline) fun σ H Q q => by
    obtain ⟨π, ρ, G, S, k⟩ := q
    unfold ePop at k
    have main : ∀ (s : Sl) (xs : List D), ρ[i]? = some s → (s = .o (.lst xs) ∨ ∃ j, s = .io j (.lst xs)) → Po X.K c π ρ G σ H (match xs.getLast? with
        | some d => .ok d (ρ.set i (s.setD (.lst xs.dropLast)))
        | none => .st) (JE X.K Q) → tBM0 X.K "list" rPop (tVar i) σ H Q := by
      intro s xs e hs k
      obtain ⟨p', h1, h2, ws, h3, h4⟩ := S.at_own e hs
      cases z : xs.getLast? with
      | none => rw [z] at k; exact False.elim k
      | some d =>
        rw [z] at k
        have hlast : xs[xs.length - 1]? = some d := by rw [← List.getLast?_eq_getElem?]; exact z
        obtain ⟨v, g1, g2⟩ := h4.get hlast
        have hdl : Reps X.K G ws.dropLast xs.dropLast := by
          rw [List.dropLast_eq_take, List.dropLast_eq_take, h4.length]
          exact h4.take _
        obtain ⟨S2, e2⟩ := S.turn (d' := .lst xs.dropLast) (ob := .lst ws.dropLast) e hs h1 ⟨_, upd_same, hdl⟩
        exact ⟨_, h1, .inl ⟨rfl, _, SqL.of h3⟩, p', ws, v, rfl, rfl, h3, by rw [h4.length]; exact g1, k G _ (Same.refl _) e2 S2 v g2⟩
    cases e : ρ[i]? with
    | none => rw [e] at k; exact False.elim k
    | some s =>
      rw [e] at k
      cases s with
      | o d =>
        cases d with
        | lst xs => exact main _ xs e (.inl rfl) k
        | _ => exact False.elim k
      | io j d =>
        cases d with
        | lst xs => exact main _ xs e (.inr ⟨j, rfl⟩) k
        | _ => exact False.elim k
      | _ => exact False.elim k
end
end NV

set_option Elab.async false
set_option linter.all false
set_option maxRecDepth 100000
set_option maxHeartbeats 4000000
/-! Lay11: stores by place; calls of defs; a def's promise. -/
namespace NV
open PySem PySem.Spec PyProof.Rows L2
theorem put_rep {K : PySem.W.Frag} {H : Hp} {z : List Nat} {w : V} {d1 : D} (r : Rep K H w d1) {ys : List (List Nat × D)} {vs : List (Key × V)} (b2 : RepK K H vs ys) : RepK K H (putK vs (.inr (ofL z)) w) (put z d1 ys) := by
  unfold putK put
  have any_of : (vs.any fun kv => decide (kv.1 = Sum.inr (ofL z))) = (look z ys).isSome := by
    rw [valV_any]
    obtain ⟨v1, v2⟩ := valV_of (k := z) b2
    cases hl : look z ys with
    | none => rw [v1 hl]; rfl
    | some d => obtain ⟨w, e1, _⟩ := v2 d hl; rw [e1]; rfl
  rw [any_of]
  by_cases hl : (look z ys).isSome = true
  · rw [if_pos hl, if_pos hl]
    clear any_of hl
    induction ys generalizing vs with
    | nil => cases b2; exact .nil
    | cons q t ih =>
      cases b2 with
      | @cons k v vs' d' ds' q1 q2 =>
        rw [List.map_cons, List.map_cons]
        by_cases e : k = z
        · subst e
          rw [if_pos rfl, if_pos rfl]
          exact .cons r (ih q2)
        · rw [if_neg (fun w => e (ofL_inj (Sum.inr.inj w))), if_neg e]
          exact .cons q1 (ih q2)
  · rw [if_neg hl, if_neg hl]
    clear any_of hl
    induction ys generalizing vs with
    | nil => cases b2; exact .cons r .nil
    | cons q t ih =>
      cases b2 with
      | cons q1 q2 => exact .cons q1 (ih q2)
section
variable {X : Cx} {c : Lv} {a b e : Expr} {es : List Expr} {f h l : Ev} {r : Ea} {pos p apos cpos pos' tpos : Pos} {x : Str}
theorem rs_setIx (i : Nat) (hu : X.A.units + 1 < cLine) (hN : X.N[i]? = some x) (hv : Vis X.env.scope x) (hb : PE X b (tE X.K c f)) (he : PE X e (tE X.K c h))
    (hsw : swapsWith e (some (.Subscript (.Name x p) b pos')) pos.line X.env = pure false := by rfl)
    (hA : ∀ v, assign (.Subscript (.Name x p) b pos') X.env v = (do
      let ov ← holding [v] (eval (.Name x p) X.env)
      let iv ← holding [v, ov] (eval b X.env)
      standAt pos'
      holding [v, ov, iv] (setItem ov iv v)
      release [v, ov, iv] []) := by intro _; rfl)
    (hs : swapsWithSole [.Subscript (.Name x p) b pos'] e pos.line X.env = pure false := by rfl) (hw : swappedStores [.Subscript (.Name x p) b pos'] e X.env = pure none := by rfl)
    (h1 : (assignEach [.Subscript (.Name x p) b pos'] X.env).map (·.2) = [assign (.Subscript (.Name x p) b pos') X.env] := by rfl)
    (hd : (x == ("__debug__" : Str)) = false := by decide) (hcd : (x == ("__classdict__" : Str)) = false := by decide) :
    PS X (.Assign [.Subscript (.Name x p) b pos'] e pos) (tS X.K c (sSetIx i f h)) := ⟨fun pins s σ H D I q => by
  obtain ⟨π, ρ, G, S, k⟩ := q
  unfold sSetIx at k
  by_cases hO : isO ρ i = true
  · rw [if_pos hO] at k
    obtain ⟨pa, xs, ws, g1, g2, g3, g4, g5⟩ := isO_of S hO
    refine (ps_asg he (pg_sub (pe_var hN hv hd hcd) hb set_list hA) hs hw h1).run pins s σ H D I ?_
    refine ⟨π, ρ, G, S, (PoS.bind k).mono fun d1 ρ1 G1 H1 _ _ S1 k1 w1 r1 => ⟨.ref pa, g2, π, ρ1, G1, S1, (PoS.bind k1).mono fun d2 ρ2 G2 H2 s2 _ S2 k2 w2 r2 => ?_⟩⟩
    obtain ⟨s', d, d', p', a1, a2, a3, a4, a5, a6, a7⟩ := chg_of S2 k2
    have ep : p' = pa := by rw [g2] at a4; exact (V.ref.inj (Option.some.inj (Option.some.inj a4))).symm
    subst ep
    cases d with
    | lst ys =>
      cases r2 with
      | int j =>
        simp only [hSetL, Option.map_eq_some_iff] at a3
        obtain ⟨jj, hj, rfl⟩ := a3
        obtain ⟨vs, b1, b2⟩ := a6
        exact ⟨p', vs, j, jj, rfl, rfl, b1, by rw [b2.length]; exact hj, a7 _ ⟨_, upd_same, b2.set (r1.mono s2 _) jj⟩⟩
      | _ => simp [hSetL] at a3
    | _ => simp [hSetL] at a3
  · rw [if_neg hO] at k
    by_cases hD : isD ρ i = true
    · rw [if_pos hD] at k
      obtain ⟨pa, xs, ws, g1, g2, g3, g4, g5⟩ := isD_of S hD
      refine (ps_dput hu (pe_var hN hv hd hcd) hb he hsw).run pins s σ H D I ?_
      refine ⟨π, ρ, G, S, (PoS.bind k).mono fun d1 ρ1 G1 H1 _ _ S1 k1 w1 r1 => ⟨.ref pa, g2, π, ρ1, G1, S1, (PoS.bind k1).mono fun d2 ρ2 G2 H2 s2 _ S2 k2 w2 r2 => ?_⟩⟩
      obtain ⟨s', d, d', p', a1, a2, a3, a4, a5, a6, a7⟩ := chg_of S2 k2
      have ep : p' = pa := by rw [g2] at a4; exact (V.ref.inj (Option.some.inj (Option.some.inj a4))).symm
      subst ep
      cases d with
      | dct ys =>
        cases r2 with
        | str z =>
          simp only [hSetD] at a3
          split at a3
          · rename_i hl
            obtain rfl := Option.some.inj a3
            obtain ⟨vs, b1, b2⟩ := a6
            refine ⟨p', _, rfl, DPut.k (k := .inr (ofL z)) b1 (by rw [b2.length, ← line_eq]; exact hl), a7 _ ⟨_, upd_same, ?_⟩⟩
            exact put_rep (r1.mono s2 _) b2
          · cases a3
        | _ => simp [hSetD] at a3
      | _ => simp [hSetD] at a3
    · rw [if_neg hD] at k
      exact False.elim k⟩
def rGetL (K : PySem.W.Frag) : V → V → Hp → VK → Prop := fun o i H Q => ∃ p xs k v, o = .ref p ∧ i = .int k ∧ SqL K H p xs ∧ atI xs k = some v ∧ Q v H
theorem get_list : PGet X (rGetL X.K) := by
  intro pins s σ H x y v u Q I rx ry h
  obtain ⟨p, xs, i, z, rfl, rfl, hq, he, q⟩ := h
  cases rx
  obtain ⟨t, rfl⟩ := ry
  obtain ⟨its, r, pl, hz⟩ := I.list hq
  obtain ⟨j, h1, h2, h3, h4, h5⟩ := atI_get he
  obtain ⟨w, ew, rw'⟩ := r.get h2
  have hl := r.length
  have hn := line63
  have fin : EP X pins σ Q w s := ⟨z, H, I, rw', q⟩
  by_cases h0 : 0 ≤ i
  · have hj : i.toNat = j := by
      rw [seqIndex_of h0 h5] at h1
      exact Option.some.inj h1
    exact wpAny_getItem_list pl.isList h0 (by omega) (by rw [hj]; simpa using ew) fin
  · have hj : (i + (its.toArray.size : Int)).toNat = j := by
      rw [seqIndex_neg (by omega) h4] at h1
      rw [List.size_toArray, ← hl]
      exact Option.some.inj h1
    exact wpAny_getItem_list_neg pl.isList (by omega) (by rw [List.size_toArray] <;> omega) (by omega) (by rw [hj]; simpa using ew) fin
theorem rs_augIx (i : Nat) {op : Operator} {g : D → D → Option D} (hN : X.N[i]? = some x) (hv : Vis X.env.scope x) (hb : PE X b (tE X.K c f)) (ho : OpD X (inplaceOp op) g) (he : PE X e (tE X.K c h))
    (hA : ∀ ov iv new, augStore b ov iv new = (do holding [new, ov, iv] (setItem ov iv new); release [new, ov, iv] []; pure .next) := by intros; rfl)
    (hd : (x == ("__debug__" : Str)) = false := by decide) (hcd : (x == ("__classdict__" : Str)) = false := by decide) :
    PS X (.AugAssign (.Subscript (.Name x p) b tpos) op e pos) (tS X.K c (sAugIx i f g h)) := by
  have hp : PIp X op (rU2 X (inplaceOp op)) := fun pins s σ H x y v u Q I rx ry hh => hh pins s σ v u I rx ry
  refine PS_imp (ps_augS (pe_var hN hv hd hcd) hb get_list he hp set_list hA) fun D σ H q => ?_
  obtain ⟨π, ρ, G, S, k⟩ := q
  unfold sAugIx at k
  by_cases hO : isO ρ i = true
  · rw [if_neg (by rw [hO]; exact Bool.noConfusion)] at k
    obtain ⟨pa, xs, ws, g1, g2, g3, g4, g5⟩ := isO_of S hO
    refine ⟨.ref pa, g2, π, ρ, G, S, (PoS.bind k).mono fun d1 ρ1 G1 H1 _ _ S1 k1 w1 r1 => ?_⟩
    cases z : held ρ1 i with
    | none => simp only [z] at k1; exact False.elim k1
    | some d =>
      cases d with
      | lst ys =>
        simp only [z] at k1
        obtain ⟨p', a1, a2, ws', a3, a4⟩ := held_of S1 z
        have ep : p' = pa := by rw [g2] at a1; exact (V.ref.inj (Option.some.inj (Option.some.inj a1))).symm
        subst ep
        cases r1 with
        | int j =>
          cases e : opIx (.lst ys) (.int j) with
          | none => simp only [e] at k1; exact False.elim k1
          | some old =>
            simp only [e] at k1
            obtain ⟨j', e1, e2⟩ := at_len a4.length (show NV.at? _ j = some old from e)
            obtain ⟨v, e3, r⟩ := a4.get e1
            refine ⟨p', ws', j, v, rfl, rfl, SqL.of a3, e2 v e3, π, ρ1, G1, S1, (PoS.bind k1).mono fun d2 ρ2 G2 H2 s2 _ S2 k2 w2 r2 => ?_⟩
            have k3 := PoS.bind k2
            cases z2 : g old d2 with
            | none => rw [z2] at k3; exact False.elim k3
            | some d3 =>
              rw [z2] at k3
              refine ho.run S2.sub (r.mono s2 _) r2 z2 fun w3 G3 H3 gr3 r3 => ?_
              have k4 := k3.grow S2 gr3
              have S3 := (S2.grow gr3).1
              obtain ⟨s', d, d', p'', b1, b2, b3, b4, b5, b6, b7⟩ := chg_of S3 k4
              have ep : p'' = p' := by rw [g2] at b4; exact (V.ref.inj (Option.some.inj (Option.some.inj b4))).symm
              subst ep
              cases d with
              | lst zs =>
                simp only [hSetL, Option.map_eq_some_iff] at b3
                obtain ⟨jj, hj, rfl⟩ := b3
                obtain ⟨vs, c1, c2⟩ := b6
                exact ⟨p'', vs, j, jj, rfl, rfl, c1, by rw [c2.length]; exact hj, b7 _ ⟨_, upd_same, c2.set r3 jj⟩⟩
              | _ => simp [hSetL] at b3
        | _ => simp [opIx] at k1; exact False.elim k1
      | _ => simp only [z] at k1; exact False.elim k1
  · rw [if_pos (by simpa using hO)] at k
    exact False.elim k
end
end NV

set_option Elab.async false
set_option linter.all false
set_option maxRecDepth 100000
set_option maxHeartbeats 4000000
/-! Lay12: calls of defs; a def's promise; the law's. -/
namespace NV
open PySem PySem.Spec PyProof.Rows L2
/-- what a def promises: what its semantics says -/
def spD (K : PySem.W.Frag) (Z : Exn → Value → Option Addr → Hp → Prop) (n : Nat) (s : Df) : Sp := fun vs H Q E => vs.length = n ∧ ∃ (π : Nat → Addr) (as : Env) (G : Hp), SE K π as G (vs.map some) H ∧
  Po K ⟨Z, fun cls d _ H' => E cls d H'⟩ π as G (vs.map some) H (s as) fun r as' G' H' => ∀ w, RR K as (vs.map some) H as' (vs.map some) G' H' r w → Q w H'
section
variable {K : PySem.W.Frag} {π : Nat → Addr} {ρ ρ1 ρ' : Env} {G G1 G' : Hp} {σ σ1 σ' : St} {H H1 H' : Hp} {c : Lv}
/-- behind a call that changed nothing of the caller's -/
theorem SE.after (S : SE K π ρ G σ H) (s : Same G G') (sub : Same G' H') (hk : ∀ b o, H b = some o → H' b = some o ∧ (G b = none → G' b = none)) : SE K π ρ G' σ H' ∧ Ext ρ σ G H ρ σ G' H' := by
  have no : ∀ {b : Addr}, Ownd ρ σ b → G' b = none ∧ H' b = H b := fun {b} h => by
    obtain ⟨g, o, ho⟩ := S.own h
    obtain ⟨a1, a2⟩ := hk b o ho
    exact ⟨a2 g, a1.trans ho.symm⟩
  refine ⟨⟨sub, S.len, fun i t h => ?_, S.inj⟩, fun b o hb n => ⟨(hk b o hb).1, n, (hk b o hb).2⟩⟩
  have k := S.ok i t h
  cases t with
  | un => trivial
  | v d => obtain ⟨w, e, r⟩ := k; exact ⟨w, e, r.mono s _⟩
  | o d =>
    obtain ⟨p, e, g, ow⟩ := k
    obtain ⟨a1, a2⟩ := no ⟨i, _, h, rfl, e⟩
    exact ⟨p, e, a1, ow.mono s a2⟩
  | io j d =>
    obtain ⟨e, g, ow⟩ := k
    obtain ⟨a1, a2⟩ := no ⟨i, _, h, rfl, e⟩
    exact ⟨e, a1, ow.mono s a2⟩
/-- .. that turned the one that was lent -/
theorem SE.lentX (S : SE K π ρ G σ H) {i : Nat} {t : Sl} {d e' : D} {p : Addr} (e : ρ[i]? = some t) (hs : t = .o d ∨ ∃ k, t = .io k d) (hp : σ[i]? = some (some (.ref p))) (s : Same G G') (sub : Same G' H')
    (hk : ∀ b o, b ≠ p → H b = some o → H' b = some o ∧ (G b = none → G' b = none)) (gp : G' p = none) (ow : Own K G' H' p e') : SE K π (ρ.set i (t.setD e')) G' σ H' ∧ Ext ρ σ G H (ρ.set i (t.setD e')) σ G' H' := by
  have so : t.owned = true := by rcases hs with rfl | ⟨_, rfl⟩ <;> rfl
  have so' : (t.setD e').owned = true := by rcases hs with rfl | ⟨_, rfl⟩ <;> rfl
  have oth : ∀ {j : Nat} {u : Sl} {b : Addr}, j ≠ i → ρ[j]? = some u → u.owned = true → σ[j]? = some (some (.ref b)) → b ≠ p := fun {j u b} n h o hb z => n (S.inj j i b u t h e o so hb (by rw [z]; exact hp))
  have no : ∀ {j : Nat} {u : Sl} {b : Addr}, j ≠ i → ρ[j]? = some u → u.owned = true → σ[j]? = some (some (.ref b)) → G' b = none ∧ H' b = H b := fun {j u b} n h o hb => by
    obtain ⟨g, x, ho⟩ := S.own ⟨j, u, h, o, hb⟩
    obtain ⟨a1, a2⟩ := hk b x (oth n h o hb) ho
    exact ⟨a2 g, a1.trans ho.symm⟩
  refine ⟨⟨sub, by rw [List.length_set]; exact S.len, fun j u h => ?_, fun j k b u v h1 h2 o1 o2 q1 q2 => ?_⟩, fun b x hb n => ?_⟩
  · rcases getset h with ⟨rfl, _, rfl⟩ | ⟨n, h⟩
    · rcases hs with rfl | ⟨k, rfl⟩
      · exact ⟨p, hp, gp, ow⟩
      · have k' := S.ok j _ e
        have e2 : π k = p := by
          have := k'.1
          rw [hp] at this
          exact (V.ref.inj (Option.some.inj (Option.some.inj this))).symm
        show σ[j]? = some (some (.ref (π k))) ∧ G' (π k) = none ∧ Own K G' H' (π k) e'
        rw [e2]
        exact ⟨hp, gp, ow⟩
    · have k := S.ok j u h
      cases u with
      | un => trivial
      | v d => obtain ⟨w, e, r⟩ := k; exact ⟨w, e, r.mono s _⟩
      | o d =>
        obtain ⟨q, e1, g1, o1⟩ := k
        obtain ⟨a1, a2⟩ := no n h rfl e1
        exact ⟨q, e1, a1, o1.mono s a2⟩
      | io m d =>
        obtain ⟨e1, g1, o1⟩ := k
        obtain ⟨a1, a2⟩ := no n h rfl e1
        exact ⟨e1, a1, o1.mono s a2⟩
  · have ox : ∀ {j : Nat} {u : Sl}, (ρ.set i (t.setD e'))[j]? = some u → u.owned = true → ∃ u', ρ[j]? = some u' ∧ u'.owned = true := fun {j u} h o => by
      rcases getset h with ⟨rfl, _, rfl⟩ | ⟨_, h⟩
      · exact ⟨t, e, so⟩
      · exact ⟨u, h, o⟩
    obtain ⟨t1, a1, b1⟩ := ox h1 o1
    obtain ⟨t2, a2, b2⟩ := ox h2 o2
    exact S.inj j k b t1 t2 a1 a2 b1 b2 q1 q2
  · have hb' : b ≠ p := fun z => n ⟨i, t, e, so, by rw [z]; exact hp⟩
    obtain ⟨a1, a2⟩ := hk b x hb' hb
    refine ⟨a1, fun ⟨j, u, h1, o1, h2⟩ => ?_, a2⟩
    rcases getset h1 with ⟨rfl, _, rfl⟩ | ⟨m, h1⟩
    · rw [hp] at h2
      exact hb' (V.ref.inj (Option.some.inj (Option.some.inj h2))).symm
    · exact n ⟨j, u, h1, o1, h2⟩
theorem vget {ds : List D} {i : Nat} {s : Sl} (h : (ds.map Sl.v)[i]? = some s) : ∃ d, ds[i]? = some d ∧ s = .v d := by
  rw [List.getElem?_map] at h
  cases e : ds[i]? with
  | none => rw [e] at h; cases h
  | some d => rw [e] at h; exact ⟨d, rfl, (Option.some.inj h).symm⟩
theorem sget {vs : List V} {i : Nat} {w : V} (h : vs[i]? = some w) : (vs.map some)[i]? = some (some w) := by
  rw [List.getElem?_map, h]; rfl
/-- a callee's start -/
theorem SE.args (sub : Same G H) {ds : List D} {vs : List V} (r : Reps K G vs ds) (π' : Nat → Addr) : SE K π' (ds.map Sl.v) G (vs.map some) H := by
  refine ⟨sub, by rw [List.length_map, List.length_map, r.length], fun i s h => ?_, fun i j b s t h1 h2 o1 o2 => ?_⟩
  · obtain ⟨d, hd, rfl⟩ := vget h
    obtain ⟨w, hw, rw'⟩ := r.get hd
    exact ⟨w, sget hw, rw'⟩
  · obtain ⟨d, hd, rfl⟩ := vget h1
    cases o1
theorem noOwn_v {ds : List D} {τ : St} {b : Addr} : ¬ Ownd (ds.map Sl.v) τ b := fun ⟨i, s, h, o, _⟩ => by
  obtain ⟨d, _, rfl⟩ := vget h
  cases o
end
section
variable {X : Cx} {c : Lv} {e : Expr} {es : List Expr} {fs : Ea} {pos p : Pos} {x : Str} {s : Df} {n k : Nat} {f : Addr} {fd : FuncData} {ps : List Str}
theorem ro_call (F : FnOk X.prog X.w X.K X.mg X.base (L2.CX X.prog X.w) k f fd ps (spD X.K c.Z n s)) (hn : ∀ as, s as ≠ .st → as.length = n) (hr : Room k X.A) (hg : Gl X x) (hm : X.mg x = some (.ref f)) (hk : PySem.W.keepIn X.K (.ref f) = true) (hb : Binds X.K fd ps []) (tk : Takes X c.W)
    (ha : PA X (e :: es) (tA X.K c fs)) (hdb : (x == ("__debug__" : Str)) = false := by decide) (he : starEach (e :: es) X.env = (false, eval e X.env) :: starEach es X.env := by rfl) (hpl : (backTo pos (starEach es X.env)).any (·.1) = false := by rfl) :
    PE X (.Call (.Name x p) (e :: es) [] pos) (tO X.K c (eCall s fs)) := PE_imp (pe_callS F hr hg hm hk hb (fun σ => passAt tk σ) ha hdb he hpl) fun σ H Q q => by
  obtain ⟨π, ρ, G, S, k⟩ := q
  refine ⟨π, ρ, G, S, (Po.bind k).mono fun ds ρ1 G1 H1 s1 e1 S1 k1 vs r => ?_⟩
  have SC := SE.args S1.sub r π
  have hlen : s (ds.map .v) ≠ .st → vs.length = n := fun z => by
    have := hn _ z
    rw [List.length_map] at this
    rw [r.length, this]
  cases z : s (ds.map Sl.v) with
  | ok rr as' =>
    simp only [z] at k1
    refine ⟨hlen (by rw [z]; exact fun q => by cases q), π, _, G1, SC, ?_⟩
    rw [z]
    intro G' H' s' e' S' w q
    obtain ⟨S2, e2⟩ := S1.after s' S'.sub fun b o hb => by
      obtain ⟨a1, _, a3⟩ := e' b o hb noOwn_v
      exact ⟨a1, a3⟩
    refine k1 G' H' s' e2 S2 w ?_
    cases rr with
    | v d => exact q
    | o d =>
      obtain ⟨pp, rfl, q1, q2, q3, q4⟩ := q
      have h1 : H1 pp = none := q4.resolve_right noOwn_v
      refine ⟨pp, rfl, q1, q2, fun z => ?_, ?_⟩
      · obtain ⟨_, o, ho⟩ := S1.own z
        rw [h1] at ho; cases ho
      · cases zz : H pp with
        | none => exact .inl rfl
        | some o =>
          by_cases m : Ownd ρ σ pp
          · exact .inr m
          · have := (e1 pp o zz m).1
            rw [h1] at this; cases this
    | un => exact False.elim q
    | io _ _ => exact False.elim q
  | rz xx as' =>
    simp only [z] at k1
    refine ⟨hlen (by rw [z]; exact fun q => by cases q), π, _, G1, SC, ?_⟩
    rw [z]
    intro cls d G' H' s' e' S' hz
    obtain ⟨S2, e2⟩ := S1.after s' S'.sub fun b o hb => by
      obtain ⟨a1, _, a3⟩ := e' b o hb noOwn_v
      exact ⟨a1, a3⟩
    exact k1 cls d G' H' s' e2 S2 hz
  | st => simp only [z] at k1; exact False.elim k1
/-- .. as a value -/
theorem re_val {f : Eo} (h : PE X e (tO X.K c f)) : PE X e (tE X.K c (val f)) := PE_imp h fun σ H Q q => by
  obtain ⟨π, ρ, G, S, k⟩ := q
  refine ⟨π, ρ, G, S, ?_⟩
  cases z : f ρ with
  | st => rw [val, z] at k; exact False.elim k
  | rz x ρ1 => rw [val, z] at k; exact k
  | ok r ρ1 =>
  rw [val, z] at k
  intro G1 H1 s1 e1 S1 w q
  cases r with
  | v d => exact k G1 H1 s1 e1 S1 w q
  | o d =>
    obtain ⟨pp, rfl, q1, q2, q3, q4⟩ := q
    -- the list joins the values
    obtain ⟨o, ho⟩ := q2.some
    have sG : Same G1 (L2.upd G1 pp o) := Same.new q1
    have S3 : SE X.K π ρ1 (L2.upd G1 pp o) σ H1 := by
      refine ⟨fun b x hb => ?_, S1.len, fun i t hs => ?_, S1.inj⟩
      · by_cases hb' : b = pp
        · subst hb'; rw [upd_same] at hb; rw [ho]; exact hb
        · rw [upd_ne hb'] at hb; exact S1.sub _ _ hb
      · have kk := S1.ok i t hs
        cases t with
        | un => trivial
        | v d => obtain ⟨w, e, r⟩ := kk; exact ⟨w, e, r.mono sG _⟩
        | o d =>
          obtain ⟨p', e, a1, a2⟩ := kk
          exact ⟨p', e, by rw [upd_ne (fun z => q3 ⟨i, _, hs, rfl, by rw [← z]; exact e⟩)]; exact a1, a2.mono sG rfl⟩
        | io j d =>
          obtain ⟨e, a1, a2⟩ := kk
          exact ⟨e, by rw [upd_ne (fun z => q3 ⟨i, _, hs, rfl, by rw [← z]; exact e⟩)]; exact a1, a2.mono sG rfl⟩
    have rep : Rep X.K (L2.upd G1 pp o) (.ref pp) d := by
      cases d with
      | lst ds => obtain ⟨ws, b1, b2⟩ := q2; rw [ho] at b1; cases b1; exact .lst upd_same (Reps.mono sG _ _ b2)
      | dct ds => obtain ⟨ws, b1, b2⟩ := q2; rw [ho] at b1; cases b1; exact .dct upd_same (RepK.mono sG _ _ b2)
      | _ => exact False.elim q2
    refine k (L2.upd G1 pp o) H1 (s1.trans sG) (fun b x hb hn => ?_) S3 _ rep
    obtain ⟨a1, a2, a3⟩ := e1 b x hb hn
    refine ⟨a1, a2, fun hz => ?_⟩
    have hne : b ≠ pp := fun z => by
      subst z
      rcases q4 with q | q
      · rw [hb] at q; cases q
      · exact hn q
    rw [upd_ne hne]
    exact a3 hz
  | un => exact False.elim q
  | io _ _ => exact False.elim q
end
end NV

set_option Elab.async false
set_option linter.all false
set_option maxRecDepth 100000
set_option maxHeartbeats 4000000
/-! Lay13: a def keeps its promise; a call that lends a list. -/
namespace NV
open PySem PySem.Spec PyProof.Rows L2
theorem lent_len : ∀ (as ρ : Env), (lent as ρ).length = as.length
  | [], _ => rfl
  | .v d :: as, ρ => by rw [lent, List.length_cons, List.length_cons, lent_len as]
  | .io k _ :: as, ρ => by rw [lent, List.length_cons, List.length_cons, lent_len as]
  | .o _ :: as, ρ => by rw [lent, List.length_cons, List.length_cons, lent_len as]
  | .un :: as, ρ => by rw [lent, List.length_cons, List.length_cons, lent_len as]
theorem lent_get : ∀ (as ρ : Env) (i : Nat) (s : Sl), (lent as ρ)[i]? = some s → s = .un ∨ (∃ d, s = .v d ∧ as[i]? = some (.v d)) ∨ ∃ k d e, s = .io k e ∧ as[i]? = some (.io k d) ∧ ρ[i]? = some (.io k e)
  | [], _, _, _, h => by simp [lent] at h
  | a :: as, ρ, i + 1, s, h => by
    have h' : (lent as ρ.tail)[i]? = some s := by
      cases a <;> (rw [lent] at h; simpa using h)
    rcases lent_get as ρ.tail i s h' with q | ⟨d, e, q⟩ | ⟨k, d, e, e1, q, r⟩
    · exact .inl q
    · exact .inr (.inl ⟨d, e, by simpa using q⟩)
    · exact .inr (.inr ⟨k, d, e, e1, by simpa using q, by rw [← r]; cases ρ <;> simp⟩)
  | .v d :: as, ρ, 0, s, h => by
    rw [lent] at h
    have e : Sl.v d = s := by simpa using h
    exact .inr (.inl ⟨d, e.symm, rfl⟩)
  | .o d :: as, ρ, 0, s, h => by
    rw [lent] at h
    have e : Sl.un = s := by simpa using h
    exact .inl e.symm
  | .un :: as, ρ, 0, s, h => by
    rw [lent] at h
    have e : Sl.un = s := by simpa using h
    exact .inl e.symm
  | .io k d :: as, ρ, 0, s, h => by
    rw [lent] at h
    cases ρ with
    | nil => exact .inl (by simpa using h.symm)
    | cons t ρ =>
      cases t with
      | io j e =>
        by_cases hk : k = j
        · subst hk
          have e' : Sl.io k e = s := by simpa using h
          exact .inr (.inr ⟨k, d, e, e'.symm, rfl, rfl⟩)
        · have e' : Sl.un = s := by simpa [hk] using h
          exact .inl e'.symm
      | _ => exact .inl (by simpa using h.symm)
section
variable {K : PySem.W.Frag} {π : Nat → Addr} {as ρ ρ' : Env} {G G' : Hp} {vs : List V} {σ σ' : St} {H H' : Hp} {c : Lv}
theorem st_get {N : List Str} {i : Nat} {w : V} (h : (L2.start N vs)[i]? = some (some w)) : vs[i]? = some w := by
  unfold L2.start at h
  by_cases hi : i < vs.length
  · rw [List.getElem?_append_left (by simpa using hi), List.getElem?_map] at h
    cases e : vs[i]? with
    | none => rw [e] at h; cases h
    | some a => rw [e] at h; cases h; rfl
  · rw [List.getElem?_append_right (by simpa using hi), List.getElem?_replicate] at h
    split at h <;> cases h
theorem st_put {N : List Str} {i : Nat} {w : V} (h : (vs.map some)[i]? = some (some w)) : (L2.start N vs)[i]? = some (some w) := by
  unfold L2.start
  have hi : i < (vs.map some).length := by
    by_cases hi : i < (vs.map some).length
    · exact hi
    · rw [List.getElem?_eq_none (by omega)] at h; cases h
  rw [List.getElem?_append_left hi]
  exact h
theorem en_get {m i : Nat} {s : Sl} (h : (as ++ List.replicate m Sl.un)[i]? = some s) : s = .un ∨ as[i]? = some s := by
  by_cases hi : i < as.length
  · rw [List.getElem?_append_left hi] at h; exact .inr h
  · rw [List.getElem?_append_right (by omega), List.getElem?_replicate] at h
    split at h
    · cases h; exact .inl rfl
    · cases h
theorem en_put {m i : Nat} {s : Sl} (h : as[i]? = some s) : (as ++ List.replicate m Sl.un)[i]? = some s := by
  have hi : i < as.length := by
    by_cases hi : i < as.length
    · exact hi
    · rw [List.getElem?_eq_none (by omega)] at h; cases h
  rw [List.getElem?_append_left hi]
  exact h
theorem mget {i : Nat} {w : V} (h : vs[i]? = some w) : (vs.map some)[i]? = some (some w) := by rw [List.getElem?_map, h]; rfl
/-- a body's start -/
theorem SE.begin (S : SE K π as G (vs.map some) H) {N : List Str} {m : Nat} (hl : N.length = as.length + m) : SE K π (as ++ List.replicate m .un) G (L2.start N vs) H := by
  have hv : as.length = vs.length := by have := S.len; rwa [List.length_map] at this
  refine ⟨S.sub, ?_, fun i s h => ?_, fun i j b s t h1 h2 o1 o2 q1 q2 => ?_⟩
  · unfold L2.start
    rw [List.length_append, List.length_append, List.length_map, List.length_replicate, List.length_replicate]
    omega
  · rcases en_get h with rfl | h
    · trivial
    · have k := S.ok i s h
      cases s with
      | un => trivial
      | v d => obtain ⟨w, e, r⟩ := k; exact ⟨w, st_put e, r⟩
      | o d => obtain ⟨p, e, g, r⟩ := k; exact ⟨p, st_put e, g, r⟩
      | io j d => obtain ⟨e, g, r⟩ := k; exact ⟨st_put e, g, r⟩
  · rcases en_get h1 with rfl | h1
    · cases o1
    rcases en_get h2 with rfl | h2
    · cases o2
    exact S.inj i j b s t h1 h2 o1 o2 (mget (st_get q1)) (mget (st_get q2))
theorem own_begin {N : List Str} {m : Nat} {b : Addr} (h : Ownd (as ++ List.replicate m .un) (L2.start N vs) b) : Ownd as (vs.map some) b := by
  obtain ⟨i, s, h1, o, h2⟩ := h
  rcases en_get h1 with rfl | h1
  · cases o
  exact ⟨i, s, h1, o, mget (st_get h2)⟩
/-- a body's end -/
theorem SE.ends (S : SE K π as G (vs.map some) H) {N : List Str} {m : Nat} (s : Same G G') (e : Ext (as ++ List.replicate m .un) (L2.start N vs) G H ρ' σ' G' H') (S' : SE K π ρ' G' σ' H') :
    SE K π (lent as ρ') G' (vs.map some) H' ∧ Ext as (vs.map some) G H (lent as ρ') (vs.map some) G' H' ∧ ∀ b, Ownd (lent as ρ') (vs.map some) b → Ownd ρ' σ' b := by
  have ow : ∀ b, Ownd (lent as ρ') (vs.map some) b → Ownd ρ' σ' b ∧ Ownd as (vs.map some) b := fun b h => by
    obtain ⟨i, t, h1, o, h2⟩ := h
    rcases lent_get _ _ _ _ h1 with rfl | ⟨d, rfl, _⟩ | ⟨k, d, e, rfl, q1, q2⟩
    · cases o
    · cases o
    have k1 := S.ok i _ q1
    have k2 := S'.ok i _ q2
    have e1 : π k = b := by
      have := k1.1
      rw [h2] at this
      exact (V.ref.inj (Option.some.inj (Option.some.inj this))).symm
    refine ⟨⟨i, _, q2, rfl, by rw [k2.1, e1]⟩, ⟨i, _, q1, rfl, h2⟩⟩
  refine ⟨⟨S'.sub, by rw [lent_len]; exact S.len, fun i t h => ?_, fun i j b t u h1 h2 o1 o2 q1 q2 => ?_⟩, fun b o hb n => ?_, fun b h => (ow b h).1⟩
  · rcases lent_get _ _ _ _ h with rfl | ⟨d, rfl, q⟩ | ⟨k, d, e', rfl, q1, q2⟩
    · trivial
    · obtain ⟨w, e1, r⟩ := S.ok i _ q
      exact ⟨w, e1, r.mono s _⟩
    · have k1 := S.ok i _ q1
      have k2 := S'.ok i _ q2
      exact ⟨k1.1, k2.2.1, k2.2.2⟩
  · have wit : ∀ {i : Nat} {t : Sl}, (lent as ρ')[i]? = some t → t.owned = true → ∃ t', as[i]? = some t' ∧ t'.owned = true := fun {i t} h o => by
      rcases lent_get _ _ _ _ h with rfl | ⟨d, rfl, _⟩ | ⟨k, d, e', rfl, q1, q2⟩
      · cases o
      · cases o
      · exact ⟨_, q1, rfl⟩
    obtain ⟨t1, a1, b1⟩ := wit h1 o1
    obtain ⟨t2, a2, b2⟩ := wit h2 o2
    exact S.inj i j b t1 t2 a1 a2 b1 b2 q1 q2
  · obtain ⟨a1, a2, a3⟩ := e b o hb fun z => n (own_begin z)
    exact ⟨a1, fun z => n (ow b z).2, a3⟩
theorem RR.ends {r : Sl} {w : V} {N : List Str} {m : Nat} (ow : ∀ b, Ownd (lent as ρ') (vs.map some) b → Ownd ρ' σ' b) (q : RR K (as ++ List.replicate m .un) (L2.start N vs) H ρ' σ' G' H' r w) :
    RR K as (vs.map some) H (lent as ρ') (vs.map some) G' H' r w := by
  cases r with
  | v d => exact q
  | o d =>
    obtain ⟨p, e, g, o, n, f⟩ := q
    exact ⟨p, e, g, o, fun z => n (ow p z), f.imp id own_begin⟩
  | un => exact False.elim q
  | io _ _ => exact False.elim q
end
theorem run_len {n m : Nat} {g : Es} : ∀ as, run n m g as ≠ .st → as.length = n := fun as h => by
  unfold run at h
  by_cases e : as.length = n
  · exact e
  · rw [if_neg e] at h; exact absurd rfl h
section
variable {P : Program} {w : World} {K : PySem.W.Frag} {mg : Str → Option Value} {base : Heap}
theorem def_ok {Z : Exn → Value → Option Addr → Hp → Prop} {x qual : Str} {st : Stmt} {f : Addr} {fd : FuncData} {N ps : List Str} {k n m : Nat} {g : Es} (F : Fun K x qual st f fd) (S : FnScope N ps (defScope st)) (hn : ps.length = n) (hm : N.length = n + m)
    (hb : ∀ (cdv : Value) (A : Around) (outer : List PySem.Env) (s : Shared) (H : Hp) (E : XK), Room k (A.deeper (envOfC qual (defScope st) s.heap.objs.size f cdv)) →
      PSs (cxOf (L2.CX P w) P w K mg base N qual (defScope st) f cdv A outer s H E) (defBody st) (tS K ⟨Z, fun cls d _ H' => E cls d H'⟩ g)) : FnOk P w K mg base (L2.CX P w) (k + 1) f fd ps (spD K Z n (run n m g)) := by
  refine F.okX S (fun vs H Q E h => h.1.trans hn.symm) fun cdv A outer s H vs Q E hr h => ⟨_, hb cdv A outer s H E hr, ?_⟩
  obtain ⟨hl, π, as, G, SA, k⟩ := h
  have hl2 : as.length = n := by rw [SA.len, List.length_map]; exact hl
  refine ⟨π, as ++ List.replicate m .un, G, SA.begin (by rw [hm, hl2]), ?_⟩
  unfold run at k
  rw [if_pos hl2] at k
  cases z : g (as ++ List.replicate m .un) with
  | st => rw [z] at k; exact False.elim k
  | rz xx ρ' =>
    rw [z] at k
    intro cls d σ' G' H' s1 e1 S1 hz
    obtain ⟨S2, e2, _⟩ := SA.ends s1 e1 S1
    exact k cls d G' H' s1 e2 S2 hz
  | ok fl ρ' =>
    rw [z] at k
    cases fl with
    | nx =>
      intro σ' G' H' s1 e1 S1
      obtain ⟨S2, e2, _⟩ := SA.ends s1 e1 S1
      exact k G' H' s1 e2 S2 _ .non
    | brk => exact False.elim k
    | cnt => exact False.elim k
    | ret r =>
      intro w' σ' G' H' s1 e1 S1 q
      obtain ⟨S2, e2, ow⟩ := SA.ends s1 e1 S1
      exact k G' H' s1 e2 S2 _ (q.ends ow)
end
end NV
namespace NV
open PySem PySem.Spec PyProof.Rows L2
/-- a callee's start, the first argument lent -/
theorem SE.argsX {K : PySem.W.Frag} {G H : Hp} (sub : Same G H) {ds : List D} {vs : List V} (r : Reps K G vs ds) {p : Addr} {d : D} (g : G p = none) (o : Own K G H p d) : SE K (fun _ => p) (.io 0 d :: ds.map Sl.v) G (some (.ref p) :: vs.map some) H := by
  have S := SE.args sub r (fun _ => p)
  refine ⟨sub, by rw [List.length_cons, List.length_cons, S.len], fun i s h => ?_, fun i j b s t h1 h2 o1 o2 q1 q2 => ?_⟩
  · cases i with
    | zero =>
      have e : Sl.io 0 d = s := by simpa using h
      subst e
      exact ⟨rfl, g, o⟩
    | succ i =>
      have k := S.ok i s (by simpa using h)
      cases s with
      | un => trivial
      | v d => obtain ⟨w, e, r⟩ := k; exact ⟨w, by simpa using e, r⟩
      | o d => obtain ⟨q, e, g, r⟩ := k; exact ⟨q, by simpa using e, g, r⟩
      | io j d => obtain ⟨e, g, r⟩ := k; exact ⟨by simpa using e, g, r⟩
  · have z : ∀ {i : Nat} {s : Sl}, (Sl.io 0 d :: ds.map Sl.v)[i]? = some s → s.owned = true → i = 0 := fun {i s} h o => by
      cases i with
      | zero => rfl
      | succ i =>
        obtain ⟨d, _, rfl⟩ := vget (i := i) (s := s) (by simpa using h)
        cases o
    rw [z h1 o1, z h2 o2]
theorem ownX {ds : List D} {d : D} {τ : St} {p b : Addr} (h : Ownd (.io 0 d :: ds.map Sl.v) (some (.ref p) :: τ) b) : b = p := by
  obtain ⟨i, s, h1, o, h2⟩ := h
  cases i with
  | zero =>
    have e : V.ref p = V.ref b := by simpa using h2
    exact (V.ref.inj e).symm
  | succ i =>
    obtain ⟨d, _, rfl⟩ := vget (i := i) (s := s) (by simpa using h1)
    cases o
section
variable {X : Cx} {c : Lv} {e : Expr} {es : List Expr} {fs : Ea} {pos p p2 : Pos} {x y : Str} {s : Df} {n k : Nat} {f : Addr} {fd : FuncData} {ps : List Str}
theorem ro_callD (i : Nat) (F : FnOk X.prog X.w X.K X.mg X.base (L2.CX X.prog X.w) k f fd ps (spD X.K c.Z n s)) (hn : ∀ as, s as ≠ .st → as.length = n) (hr : Room k X.A) (hg : Gl X x) (hm : X.mg x = some (.ref f)) (hk : PySem.W.keepIn X.K (.ref f) = true) (hb : Binds X.K fd ps []) (tk : Takes X c.W)
    (hN : X.N[i]? = some y) (hv : Vis X.env.scope y) (ha : PA X es (tA X.K c fs)) (hd : (y == ("__debug__" : Str)) = false := by decide) (hcd : (y == ("__classdict__" : Str)) = false := by decide)
    (hdb : (x == ("__debug__" : Str)) = false := by decide) (hs : starEach (.Name y p2 :: es) X.env = (false, eval (.Name y p2) X.env) :: starEach es X.env := by rfl) (hpl : (backTo pos (starEach es X.env)).any (·.1) = false := by rfl) :
    PE X (.Call (.Name x p) (.Name y p2 :: es) [] pos) (tO X.K c (eCallD s i fs)) := PE_imp (pe_callS F hr hg hm hk hb (fun σ => passAt tk σ) (pa_cons (pe_var hN hv hd hcd) ha hs) hdb hs hpl) fun σ H Q q => by
  obtain ⟨π, ρ, G, S, k⟩ := q
  unfold eCallD at k
  cases hh : held ρ i with
  | none => rw [hh, if_pos (by rfl)] at k; exact False.elim k
  | some d0 =>
  rw [hh, if_neg (by exact fun z => by cases z)] at k
  have hx : ∃ pp, σ[i]? = some (some (.ref pp)) := by
    unfold held at hh
    cases e1 : ρ[i]? with
    | none => rw [e1] at hh; cases hh
    | some t =>
      rw [e1] at hh
      have k1 := S.ok i t e1
      cases t with
      | o d => obtain ⟨q, a1, _⟩ := k1; exact ⟨q, a1⟩
      | io j d => exact ⟨_, k1.1⟩
      | un => cases hh
      | v d => cases hh
  obtain ⟨pp, hp⟩ := hx
  refine ⟨.ref pp, hp, π, ρ, G, S, (Po.bind k).mono fun ds ρ1 G1 H1 s1 e1 S1 k1 vs r => ?_⟩
  cases e2 : ρ1[i]? with
  | none => simp only [e2] at k1; exact False.elim k1
  | some t =>
  have kk := S1.ok i t e2
  have main : ∀ d, (t = .o d ∨ ∃ j, t = .io j d) → G1 pp = none → Own X.K G1 H1 pp d → Po X.K c π ρ1 G1 σ H1 (match s (.io 0 d :: ds.map .v) with
      | .ok r (.io _ e :: _) => .ok r (ρ1.set i (t.setD e))
      | .rz x (.io _ e :: _) => .rz x (ρ1.set i (t.setD e))
      | _ => .st) (fun r ρ' G' H' => ∀ w, RR X.K ρ σ H ρ' σ G' H' r w → Q w H') → spD X.K c.Z n s (.ref pp :: vs) H1 Q (WE c.W σ) := by
    intro d ht g1 o1 k2
    have SC := SE.argsX S1.sub r g1 o1
    have hlen : s (.io 0 d :: ds.map .v) ≠ .st → (V.ref pp :: vs).length = n := fun z => by
      have := hn _ z
      rw [List.length_cons, List.length_map] at this
      rw [List.length_cons, r.length, this]
    have ho : t.owned = true := by rcases ht with rfl | ⟨_, rfl⟩ <;> rfl
    cases z : s (.io 0 d :: ds.map Sl.v) with
    | st => simp only [z] at k2; exact False.elim k2
    | ok rr as' =>
      simp only [z] at k2
      refine ⟨hlen (by rw [z]; exact fun q => by cases q), _, _, G1, SC, ?_⟩
      rw [z]
      intro G' H' s' e' S' w q
      cases as' with
      | nil => exact False.elim k2
      | cons a0 as' =>
      cases a0 with
      | io j d' =>
        have k0 := S'.ok 0 _ rfl
        obtain ⟨S2, e3⟩ := S1.lentX e2 ht hp s' S'.sub (fun b o hb hb1 => by
          obtain ⟨a1, _, a3⟩ := e' b o hb1 fun z => hb (ownX z)
          exact ⟨a1, a3⟩) k0.2.1 k0.2.2
        refine k2 G' H' s' e3 S2 w ?_
        cases rr with
        | v d => exact q
        | o dd =>
          obtain ⟨p', rfl, q1, q2, q3, q4⟩ := q
          have hne : p' ≠ pp := fun z => q3 ⟨0, _, rfl, rfl, by rw [z]; rfl⟩
          have h1 : H1 p' = none := q4.resolve_right fun z => hne (ownX z)
          refine ⟨p', rfl, q1, q2, fun ⟨j', u, a1, a2, a3⟩ => ?_, ?_⟩
          · have : Ownd ρ1 σ p' := by
              rcases getset a1 with ⟨rfl, _, rfl⟩ | ⟨_, a1⟩
              · exact ⟨_, t, e2, ho, a3⟩
              · exact ⟨j', u, a1, a2, a3⟩
            obtain ⟨_, o, ho⟩ := S1.own this
            rw [h1] at ho; cases ho
          · cases zz : H p' with
            | none => exact .inl rfl
            | some o =>
              by_cases m : Ownd ρ σ p'
              · exact .inr m
              · have := (e1 p' o zz m).1
                rw [h1] at this; cases this
        | un => exact False.elim q
        | io _ _ => exact False.elim q
      | un => exact False.elim k2
      | v _ => exact False.elim k2
      | o _ => exact False.elim k2
    | rz xx as' =>
      simp only [z] at k2
      refine ⟨hlen (by rw [z]; exact fun q => by cases q), _, _, G1, SC, ?_⟩
      rw [z]
      intro cls dx G' H' s' e' S' hz
      cases as' with
      | nil => exact False.elim k2
      | cons a0 as' =>
      cases a0 with
      | io j d' =>
        have k0 := S'.ok 0 _ rfl
        obtain ⟨S2, e3⟩ := S1.lentX e2 ht hp s' S'.sub (fun b o hb hb1 => by
          obtain ⟨a1, _, a3⟩ := e' b o hb1 fun z => hb (ownX z)
          exact ⟨a1, a3⟩) k0.2.1 k0.2.2
        exact k2 cls dx G' H' s' e3 S2 hz
      | un => exact False.elim k2
      | v _ => exact False.elim k2
      | o _ => exact False.elim k2
  cases t with
  | o d =>
    obtain ⟨q, a1, g1, o1⟩ := kk
    rw [hp] at a1
    cases a1
    simp only [e2] at k1
    exact main d (.inl rfl) g1 o1 k1
  | io j d =>
    obtain ⟨a1, g1, o1⟩ := kk
    rw [hp] at a1
    have e3 : π j = pp := (V.ref.inj (Option.some.inj (Option.some.inj a1))).symm
    rw [e3] at g1 o1
    simp only [e2] at k1
    exact main d (.inr ⟨j, rfl⟩) g1 o1 k1
  | un => simp only [e2] at k1; exact False.elim k1
  | v d => simp only [e2] at k1; exact False.elim k1
end
end NV

set_option Elab.async false
set_option linter.all false
set_option maxRecDepth 100000
set_option maxHeartbeats 4000000
/-! Lay14: isinstance, {}, a, b = x, y; short words for the printed proofs. -/
namespace NV
open PySem PySem.Spec PyProof.Rows L2
def tyN : Nat → String
  | 0 => "str"
  | 1 => "int"
  | 2 => "bool"
  | 3 => "list"
  | _ => "tuple"
theorem kit_tab {K : PySem.W.Frag} {a : String} {t : Nat} {r : Bool} (h : kitB a (tyN t) = some r) : PySem.W.kitOne K (.type a) (.type (tyN t)) = some r := kit_ty h
theorem ty_scr {K : PySem.W.Frag} {H : Hp} {a : Addr} {xs : List V} (h : SqT K H a xs) : TyX K H (.ref a) (.type "tuple") := by
  rcases h with (h | ⟨o, h⟩) | h
  · exact .base (.tup h)
  · exact .fTuple h
  · obtain ⟨o, _, _, h1, h2, _⟩ := h
    exact .kTuple h1 h2
section
variable {X : Cx} {c : Lv} {e : Expr} {f : Ev} {fs : Ea} {pos p p2 : Pos} {x : Str}
theorem cd_isi (t : Nat) (ht : t < 5) {G H : Hp} {v : V} {a d : D} {Q : VK} (s : Same G H) (r : Rep X.K G v a) (q : opIsI t a = some d) (h : Fin X.K G H Q d) : rIsi X.K [v, .ty (tyN t)] H Q := by
  cases r with
  | non =>
    obtain rfl := Option.some.inj q
    refine ⟨_, _, _, _, _, rfl, .ty _, .base .non, kit_tab ?_, h.bl s⟩
    match t, ht with
    | 0, _ => decide +kernel
    | 1, _ => decide +kernel
    | 2, _ => decide +kernel
    | 3, _ => decide +kernel
    | 4, _ => decide +kernel
  | bl b =>
    obtain rfl := Option.some.inj q
    refine ⟨_, _, _, _, _, rfl, .ty _, .base (.bl b), kit_tab ?_, h.bl s⟩
    match t, ht with
    | 0, _ => decide +kernel
    | 1, _ => decide +kernel
    | 2, _ => decide +kernel
    | 3, _ => decide +kernel
    | 4, _ => decide +kernel
  | int b =>
    obtain rfl := Option.some.inj q
    refine ⟨_, _, _, _, _, rfl, .ty _, .base (.int b), kit_tab ?_, h.bl s⟩
    match t, ht with
    | 0, _ => decide +kernel
    | 1, _ => decide +kernel
    | 2, _ => decide +kernel
    | 3, _ => decide +kernel
    | 4, _ => decide +kernel
  | str b =>
    obtain rfl := Option.some.inj q
    refine ⟨_, _, _, _, _, rfl, .ty _, .base (.str _), kit_tab ?_, h.bl s⟩
    match t, ht with
    | 0, _ => decide +kernel
    | 1, _ => decide +kernel
    | 2, _ => decide +kernel
    | 3, _ => decide +kernel
    | 4, _ => decide +kernel
  | tup h1 _ =>
    obtain rfl := Option.some.inj q
    refine ⟨_, _, _, _, _, rfl, .ty _, ty_scr (Same.tupS s h1), kit_tab ?_, h.bl s⟩
    match t, ht with
    | 0, _ => decide +kernel
    | 1, _ => decide +kernel
    | 2, _ => decide +kernel
    | 3, _ => decide +kernel
    | 4, _ => decide +kernel
  | lst h1 _ =>
    obtain rfl := Option.some.inj q
    refine ⟨_, _, _, _, _, rfl, .ty _, .base (.lst (s _ _ h1)), kit_tab ?_, h.bl s⟩
    match t, ht with
    | 0, _ => decide +kernel
    | 1, _ => decide +kernel
    | 2, _ => decide +kernel
    | 3, _ => decide +kernel
    | 4, _ => decide +kernel
  | scr _ _ => cases q
  | exc _ _ _ _ => cases q
  | lck _ _ => cases q
  | dct h1 _ =>
    obtain rfl := Option.some.inj q
    refine ⟨_, _, _, _, _, rfl, .ty _, .base (.dK (s _ _ h1)), kit_tab ?_, h.bl s⟩
    match t, ht with
    | 0, _ => decide +kernel
    | 1, _ => decide +kernel
    | 2, _ => decide +kernel
    | 3, _ => decide +kernel
    | 4, _ => decide +kernel
theorem re_isI (t : Nat) {T : Str} (hg : Gl X "isinstance") (hm : X.mg "isinstance" = none) (gT : Gl X T) (mT : X.mg T = none) (ha : PE X e (tE X.K c f)) (ht : t < 5 := by decide) (hT : bootBuiltins T = some (.type (tyN t)) := by rfl) (hdT : (T == ("__debug__" : Str)) = false := by decide)
    (nT : T ≠ "__name__" := by decide)
    (he : starEach [e, .Name T p2] X.env = (false, eval e X.env) :: starEach [.Name T p2] X.env := by rfl) (he2 : starEach [.Name T p2] X.env = (false, eval (.Name T p2) X.env) :: starEach [] X.env := by rfl) (hpl : (backTo pos (starEach [.Name T p2] X.env)).any (·.1) = false := by rfl) :
    PE X (.Call (.Name "isinstance" p) [e, .Name T p2] [] pos) (tE X.K c (e1 (opIsI t) f)) := by
  refine PE_imp (pe_callB call_isi hg hm rfl (pa_cons ha (pa_cons (pe_bltn (v := .ty (tyN t)) gT mT hT rfl nT hdT) pa_nil he2) he) (by decide) (by decide) he hpl) fun σ H Q q => ?_
  obtain ⟨π, ρ, G, S, k⟩ := q
  refine ⟨π, ρ, G, S, (Po.bind k).mono fun d1 ρ1 G1 H1 s1 e1' S1 k1 w1 r1 => ?_⟩
  obtain ⟨d, hd⟩ := some_of k1
  exact cd_isi t ht S1.sub r1 hd (fin_of S1 hd k1)
theorem re_dct0 : PE X (.Dict [] [] pos) (tE X.K c eDct0) := PE_imp pe_dnewK fun σ H Q q => by
  obtain ⟨π, ρ, G, S, k⟩ := q
  intro p n
  have g := Grow.tr (o := .dK []) S.sub n
  exact (Po.grow k S g) _ (.dct upd_same .nil)
theorem rs_par (i j : Nat) {x y : Str} {a b : Expr} {px py pt : Pos} {kt k2 pt2} (hc : X.calm = true) (hN : X.N.Nodup) (hi : X.N[i]? = some x) (hj : X.N[j]? = some y) (hij : i ≠ j)
    (hx : X.env.scope.names.lookup x = some .local) (hy : X.env.scope.names.lookup y = some .local) (ha : PA X [a, b] (tA X.K c fs))
    (hw : swappedStores [.Tuple [.Name x px, .Name y py] kt pt] (.Tuple [a, b] k2 pt2) X.env = pure (some [x, y]))
    (hs : swapsWithSole [.Tuple [.Name x px, .Name y py] kt pt] (.Tuple [a, b] k2 pt2) pos.line X.env = pure false := by rfl) :
    PS X (.Assign [.Tuple [.Name x px, .Name y py] kt pt] (.Tuple [a, b] k2 pt2) pos) (tS X.K c (sPar i j fs)) := PS_imp (ps_par hc hN hi hj hij hx hy ha hw hs) fun D σ H q => by
  obtain ⟨π, ρ, G, S, k⟩ := q
  refine ⟨π, ρ, G, S, (PoS.bind k).mono fun ds ρ1 G1 H1 _ _ S1 k1 ws r => ?_⟩
  match ds, k1, r with
  | [a, b], k1, r =>
    cases r with
    | cons ra r =>
      cases r with
      | cons rb r =>
        cases r
        refine ⟨_, _, rfl, ?_⟩
        obtain ⟨S2, e2⟩ := S1.set ra i
        obtain ⟨S3, e3⟩ := S2.set rb j
        exact k1 _ G1 H1 (Same.refl _) (e2.trans e3) S3
  | [], k1, r => exact False.elim k1
  | [_], k1, r => exact False.elim k1
  | _ :: _ :: _ :: _, k1, r => exact False.elim k1
end
end NV

set_option Elab.async false
set_option linter.all false
set_option maxRecDepth 100000
set_option maxHeartbeats 4000000
/-! Lay15: fresh lists that stay the def's own; short words. -/
namespace NV
open PySem PySem.Spec PyProof.Rows L2
theorem Res.bind_bind {α β γ : Type} (r : Res α) (f : α → Env → Res β) (g : β → Env → Res γ) : (r.bind f).bind g = r.bind fun a ρ => (f a ρ).bind g := by cases r <;> rfl
section
variable {X : Cx} {c : Lv} {a b e : Expr} {es : List Expr} {f h : Ev} {r : Ea} {pos p p2 : Pos} {x : Str}
theorem own_new {K : PySem.W.Frag} {π : Nat → Addr} {ρ ρ1 : Env} {G G1 H H1 : Hp} {σ : St} {Q : VK} {ds : List D} {ws : List V} (S1 : SE K π ρ1 G1 σ H1) (e1 : Ext ρ σ G H ρ1 σ G1 H1)
    (k1 : Po K c π ρ1 G1 σ H1 (.ok (.o (.lst ds)) ρ1) fun r ρ' G' H' => ∀ w, RR K ρ σ H ρ' σ G' H' r w → Q w H') (rs : Reps K G1 ws ds) : ∀ p, H1 p = none → Q (.ref p) (upd H1 p (.lst ws)) := fun p n => by
  have g := Grow.apart (o := .lst ws) S1.sub n
  refine Po.grow k1 S1 g _ ⟨p, rfl, ?_, ⟨ws, upd_same, rs⟩, fun z => ?_, ?_⟩
  · cases z : G1 p with
    | none => rfl
    | some o => rw [S1.sub _ _ z] at n; cases n
  · obtain ⟨_, o, ho⟩ := S1.own z
    rw [n] at ho; cases ho
  · cases z : H p with
    | none => exact .inl rfl
    | some o =>
      by_cases m : Ownd ρ σ p
      · exact .inr m
      · have := (e1 p o z m).1
        rw [n] at this; cases this
theorem ro_lst (hr : PA X es (tA X.K c r)) : PE X (.List es pos) (tO X.K c (own (eLst r))) := by
  refine PE_imp (pe_lst hr) fun σ H Q q => ?_
  obtain ⟨π, ρ, G, S, k⟩ := q
  unfold own eLst at k
  rw [Res.bind_bind] at k
  refine ⟨π, ρ, G, S, (Po.bind k).mono fun d1 ρ1 G1 H1 _ e1 S1 k1 w1 r1 => ?_⟩
  split at k1
  · rename_i hl
    exact ⟨by rw [r1.length, ← line_eq]; exact hl, own_new S1 e1 k1 r1⟩
  · exact False.elim k1
theorem ro_mul (ha : PE X a (tE X.K c f)) (hb : PE X b (tE X.K c h)) : PE X (.BinOp a .Mult b pos) (tO X.K c (own (e2 opRep f h))) := by
  refine PE_imp (pe_op opr_U ha hb) fun σ H Q q => ?_
  obtain ⟨π, ρ, G, S, k⟩ := q
  unfold own e2 at k
  rw [Res.bind_bind] at k
  refine ⟨π, ρ, G, S, (Po.bind k).mono fun d1 ρ1 G1 H1 _ e1 S1 k1 w1 r1 => ?_⟩
  rw [Res.bind_bind] at k1
  refine ⟨π, ρ1, G1, S1, (Po.bind k1).mono fun d2 ρ2 G2 H2 s2 e2 S2 k2 w2 r2 => ?_⟩
  cases d1 <;> cases d2 <;> first | exact False.elim k2 | skip
  cases r1 with
  | lst h1 r1 =>
    cases r2
    simp only [opRep, opMul] at k2
    split at k2
    · rename_i hm
      refine rU2_of op_rep ⟨_, _, _, rfl, rfl, S2.sub _ _ (s2 _ _ h1), (by have := hm.1; omega), (by have := hm.2.1; omega), ?_, own_new S2 (e1.trans e2) k2 ?_⟩
      · rw [r1.length, ← line_eq]; exact hm.2.2
      · have r1 := Reps.mono s2 _ _ r1
        clear hm k2
        generalize Int.toNat _ = n
        induction n with
        | zero => exact .nil
        | succ n ih =>
          rw [List.replicate_succ, List.replicate_succ, List.flatten_cons, List.flatten_cons]
          exact r1.append ih
    · exact False.elim k2
theorem ro_frz (i : Nat) {f : Eo} (h : PE X e (tO X.K c f)) : PE X e (tO X.K c (oFrz i f)) := PE_imp h fun _ _ _ q => by
  obtain ⟨π, ρ, G, S, k⟩ := q
  obtain ⟨GF, s1, S1, e1⟩ := S.frz1 i
  exact ⟨π, _, GF, S1, (Po.step s1 e1 k).mono fun r ρ' G' H' _ _ _ j w q => j w (q.back e1)⟩
theorem ro_add (ha : PE X a (tE X.K c f)) (hb : PE X b (tE X.K c h)) : PE X (.BinOp a .Add b pos) (tO X.K c (own (e2 opCat f h))) := by
  refine PE_imp (pe_op opr_U ha hb) fun σ H Q q => ?_
  obtain ⟨π, ρ, G, S, k⟩ := q
  unfold own e2 at k
  rw [Res.bind_bind] at k
  refine ⟨π, ρ, G, S, (Po.bind k).mono fun d1 ρ1 G1 H1 _ e1 S1 k1 w1 r1 => ?_⟩
  rw [Res.bind_bind] at k1
  refine ⟨π, ρ1, G1, S1, (Po.bind k1).mono fun d2 ρ2 G2 H2 s2 e2 S2 k2 w2 r2 => ?_⟩
  cases r1 <;> first | exact False.elim k2 | skip
  rename_i h1 r1
  cases r2 <;> first | exact False.elim k2 | skip
  rename_i h2 r2
  simp only [opCat, opAdd] at k2
  split at k2
  · rename_i hm
    refine rU2_of op_cat ⟨_, _, _, _, rfl, rfl, S2.sub _ _ (s2 _ _ h1), S2.sub _ _ h2, ?_, own_new S2 (e1.trans e2) k2 ((Reps.mono s2 _ _ r1).append r2)⟩
    rw [r1.length, r2.length, ← line_eq]; exact hm
  · exact False.elim k2
theorem ro_cut {lo hi : Option Expr} {l1 h1 : Option Ev} (ha : PE X a (tE X.K c f)) (hl : L2.PO X lo (tP X.K c l1)) (hh : L2.PO X hi (tP X.K c h1)) : PE X (.Subscript a (.Slice lo hi none p2) pos) (tO X.K c (own (eCutL f l1 h1))) := by
  refine PE_imp (pe_slice slr_U ha hl hh) fun σ H Q q => ?_
  obtain ⟨π, ρ, G, S, k⟩ := q
  unfold own eCutL at k
  rw [Res.bind_bind] at k
  refine ⟨π, ρ, G, S, (Po.bind k).mono fun d1 ρ1 G1 H1 _ e1 S1 k1 w1 r1 => ?_⟩
  rw [Res.bind_bind] at k1
  refine ⟨π, ρ1, G1, S1, (Po.bind k1).mono fun o2 ρ2 G2 H2 s2 e2 S2 k2 => ?_⟩
  rw [Res.bind_bind] at k2
  refine ⟨π, ρ2, G2, S2, (Po.bind k2).mono fun o3 ρ3 G3 H3 s3 e3 S3 k3 => ?_⟩
  cases r1 <;> first | exact False.elim k3 | skip
  · rename_i q1 q2
    exact rUS_of sl_list ⟨_, _, rfl, SqL.of (S3.sub _ _ (s3 _ _ (s2 _ _ q1))), own_new S3 ((e1.trans e2).trans e3) k3 ((Reps.mono s3 _ _ (Reps.mono s2 _ _ q2)).cut _ _)⟩
  · rename_i q1 q2
    exact rUS_of sl_list ⟨_, _, rfl, S3.sub.seq (s3.seq (s2.seq q1)), own_new S3 ((e1.trans e2).trans e3) k3 ((Reps.mono s3 _ _ (Reps.mono s2 _ _ q2)).cut _ _)⟩
theorem ro_list (hg : Gl X "list") (hm : X.mg "list" = none) (ha : PE X a (tE X.K c f)) (hs : starEach [a] X.env = (false, eval a X.env) :: starEach [] X.env := by rfl) : PE X (.Call (.Name "list" p) [a] [] pos) (tO X.K c (own (e1 opList f))) := by
  refine PE_imp (pe_callTy (T := "list") callr_U hg hm rfl (pa_cons ha pa_nil hs) (by decide) (by decide) hs rfl) fun σ H Q q => ?_
  obtain ⟨π, ρ, G, S, k⟩ := q
  unfold own e1 at k
  rw [Res.bind_bind] at k
  refine ⟨π, ρ, G, S, (Po.bind k).mono fun d1 ρ1 G1 H1 _ e1 S1 k1 w1 r1 => ?_⟩
  cases r1 with
  | lst h1 h2 => exact rUC_of call_list_of ⟨_, _, rfl, .inl (SqL.of (S1.sub _ _ h1)), own_new S1 e1 k1 h2⟩
  | scr h1 h2 => exact rUC_of call_list_of ⟨_, _, rfl, .inl (S1.sub.seq h1), own_new S1 e1 k1 h2⟩
  | tup h1 h2 => exact rUC_of call_list_of ⟨_, _, rfl, .inr (Same.tupS S1.sub h1), own_new S1 e1 k1 h2⟩
  | _ => exact False.elim k1
end
end NV

set_option Elab.async false
set_option linter.all false
set_option maxRecDepth 100000
set_option maxHeartbeats 4000000
/-! Lay16: short words for the printed proofs; the law's end. -/
namespace NV
open PySem PySem.Spec PyProof.Rows L2
/-- no exception is looked at -/
def Z0 : Exn → Value → Option Addr → Hp → Prop := fun _ _ _ _ => False
section
variable {X : Cx} {c : Lv} {a b e : Expr} {es : List Expr} {f h : Ev} {r : Ea} {pos p p2 : Pos} {x : Str}
theorem gV (i : Nat) (hN : X.N[i]? = some x := by rfl) (hv : Vis X.env.scope x := by first | exact Or.inl rfl | exact Or.inr (Or.inl rfl) | exact Or.inr (Or.inr rfl)) (hd : (x == ("__debug__" : Str)) = false := by decide) (hcd : (x == ("__classdict__" : Str)) = false := by decide) : PE X (.Name x pos) (tE X.K c (eV i)) := re_V i hN hv hd hcd
theorem gS {z : Str} (s : List Nat) {j : Nat} (hz : z = ofL s := by rfl) : PE X (.Constant (.str z) j pos) (tE X.K c (eC (.str s))) := re_str hz
theorem gG {d : D} {v : V} (hg : Gl X x) (h : ∃ u, X.mg x = some u ∧ RelV v u) (hr : ∀ G, Rep X.K G v d := by intro _; first | exact .str _ | exact .int _) (hd : (x == ("__debug__" : Str)) = false := by decide) : PE X (.Name x pos) (tE X.K c (eC d)) := by
  obtain ⟨u, hm, rv⟩ := h
  exact re_glob hg hm rv hr hd
end
/-- no promise at all -/
theorem fn_st {P : Program} {w : World} {K : PySem.W.Frag} {mg : Str → Option Value} {base : Heap} {CX : CXT} {k n : Nat} {f : Addr} {fd : FuncData} {ps : List Str} {Z : Exn → Value → Option Addr → Hp → Prop} (hn : ps.length = n) : FnOk P w K mg base CX k f fd ps (spD K Z n fun _ => .st) :=
  ⟨fun vs H Q E h => h.1.trans hn.symm, fun A outer s H args us vs Q E _ _ _ _ h => by
    obtain ⟨_, _, _, _, _, z⟩ := h
    exact False.elim z⟩
theorem law_start {K : PySem.W.Frag} {H : Hp} {a : Addr} {ns : List Int} (hS : SqL K H a (ns.map V.int)) : SE K (fun _ => 0) [.v (.scr (ns.map D.int))] H ([V.ref a].map some) H := by
  refine ⟨Same.refl _, rfl, fun i s h => ?_, fun i j b s t h1 h2 o1 o2 q1 q2 => ?_⟩
  · cases i with
    | zero =>
      have e : Sl.v (.scr (ns.map D.int)) = s := by simpa using h
      subst e
      refine ⟨.ref a, rfl, .scr hS ?_⟩
      clear hS h
      induction ns with
      | nil => exact .nil
      | cons n r ih => exact .cons (.int n) ih
    | succ i => simp at h
  · cases i with
    | zero =>
      have e : Sl.v (.scr (ns.map D.int)) = s := by simpa using h1
      subst e
      cases o1
    | succ i => simp at h1
/-- the law's promise, from its semantics' answer -/
theorem law_sp {K : PySem.W.Frag} {Z : Exn → Value → Option Addr → Hp → Prop} {s : Df} {H : Hp} {a : Addr} {ns : List Int} {as : Env} (hS : SqL K H a (ns.map V.int)) (h : s [.v (.scr (ns.map D.int))] = .ok (.v (.bl true)) as) :
    spD K Z 1 s [.ref a] H (fun v _ => v = .bl true) fun _ _ _ => False := by
  refine ⟨rfl, _, _, H, law_start hS, ?_⟩
  rw [h]
  intro G' H' s1 e1 S1 w q
  exact (Rep.bl_iff (show Rep K G' w (.bl true) from q))
end NV

set_option Elab.async false
set_option linter.all false
set_option maxRecDepth 100000
set_option maxHeartbeats 4000000
/-! Lay17: a text turned about. -/
namespace NV
open PySem PySem.Spec PyProof.Rows L2
theorem rev_pick (z : Str) : ((Builtin.Str.strSliceIndices none none (-1) z.length).filterMap (z.cps[·]?)) = z.cps.toList.reverse := by
  show ((sliceRange ((z.cps.size : Int) - 1) (-1) (-1)).filterMap (z.cps[·]?)) = _
  rw [PySem.W.krv_sliceRange, PySem.W.krv_range, List.filterMap_reverse]
  congr 1
  exact PySem.W.krv_all z.cps
def tRevS (te : TE) : TE := fun σ H Q => te σ H fun x H1 => ∃ z : Str, x = .str z ∧ z.length ≤ sizeLine ∧ Q (.str ⟨z.cps.toList.reverse.toArray⟩) H1
theorem pe_revS {X : Cx} {e : Expr} {te : TE} {k : Nat} {p1 p2 p3 pos : Pos} (he : PE X e te) : PE X (.Subscript e (.Slice none none (some (.UnaryOp .USub (.Constant (.int 1) k p1) p2)) p3) pos) (tRevS te) := by
  refine ⟨fun pins s σ H Q I h => ?_⟩
  refine Subscript_ (thn (he.run pins s σ H _ I h) fun v s1 ⟨x, H1, I1, r1, q1⟩ => ?_)
  obtain ⟨z, ex, hz, q⟩ := q1
  subst ex
  obtain ⟨t, rfl⟩ := r1
  have hst : L2.PO X (some (.UnaryOp .USub (.Constant (.int 1) k p1) p2)) (tPart (tUn (rU fun i => .int (-i)) (tC (.int 1)))) := po_some (pe_un un_neg pe_int)
  refine wpAny_Slice (thn (po_none.run pins s1 σ H1 (fun o H2 => o = none ∧ H2 = H1) I1 ⟨rfl, rfl⟩) fun vl s2 ⟨l, H2, I2, pl, el, e2⟩ => ?_)
  subst el e2
  refine thn (po_none.run pins s2 σ H2 (fun o H3 => o = none ∧ H3 = H2) I2 ⟨rfl, rfl⟩) fun vu s3 ⟨u, H3, I3, pu, eu, e3⟩ => ?_
  subst eu e3
  refine thn (hst.run pins s3 σ H3 (fun o H4 => o = some (-1) ∧ H4 = H3) I3 ⟨1, rfl, -1, rfl, rfl, rfl⟩) fun vs s4 ⟨o, H4, I4, ps, eo, e4⟩ => ?_
  subst eo e4
  have I5 : Inv X pins σ H4 { s4 with heap := s4.heap.push { cls := .type "slice", data := .fields #[vl, vu, vs] } } := I4.kept (t' := s4.toks) fun b ob q => Heap.get?_push_of_some _ q
  show wpAny (model X.prog X.w) X.A (subscriptTail e (.Slice none none (some (.UnaryOp .USub (.Constant (.int 1) k p1) p2)) p3) (.str z t) (.ref s4.heap.objs.size)) (EP X pins σ Q) X.xe { s4 with heap := s4.heap.push { cls := .type "slice", data := .fields #[vl, vu, vs] } }
  refine tail_any (ops := [.str z t, .ref s4.heap.objs.size]) (typeIs_str _ z t) (F.slot_str_getitem.lookup) ?_ (by with_unfolding_all rfl)
  obtain ⟨ql, rfl, hl⟩ := IsPart.raw pl
  obtain ⟨qu, rfl, hu⟩ := IsPart.raw pu
  obtain ⟨qs, rfl, hs⟩ := IsPart.raw ps
  obtain ⟨os, hos, hcs, hds⟩ := Heap.IsSliceOf.new s4.heap (partValue ql) (partValue qu) (partValue qs)
  refine wpAny_getItem_str_slice (l := ql) (u := qu) (st := qs) ⟨os, hos, hcs, hds⟩ (by rw [hs]; rfl) ?_
  unfold sliceMade slicePicked
  rw [hl, hu, hs]
  show Made.post (if ((-1 : Int) == 1 && _) = true then _ else Made.str ⟨((Builtin.Str.strSliceIndices none none (-1) z.length).filterMap (z.cps[·]?)).toArray⟩) _ _
  rw [if_neg (by simp), rev_pick]
  refine ⟨?_, .str _, H4, I5.tok _, ⟨_, rfl⟩, q⟩
  show (z.cps.toList.reverse.toArray).size ≤ sizeLine
  rw [List.size_toArray, List.length_reverse]
  exact hz
section
variable {X : Cx} {c : Lv} {e : Expr} {f : Ev} {pos p1 p2 p3 : Pos}
theorem re_revS {k : Nat} (he : PE X e (tE X.K c f)) : PE X (.Subscript e (.Slice none none (some (.UnaryOp .USub (.Constant (.int 1) k p1) p2)) p3) pos) (tE X.K c (e1 opRevS f)) := PE_imp (pe_revS he) fun σ H Q q => by
  obtain ⟨π, ρ, G, S, k⟩ := q
  refine ⟨π, ρ, G, S, (Po.bind k).mono fun d1 ρ1 G1 H1 s1 e1' S1 k1 w1 r1 => ?_⟩
  cases d1 <;> first | exact False.elim k1 | skip
  rename_i s
  simp only [opRevS] at k1
  split at k1
  · rename_i hl
    cases r1
    refine ⟨ofL s, rfl, by rw [ofL_len, ← line_eq]; exact hl, ?_⟩
    rw [ofL_cps]
    exact k1.now S1 _ (.str s.reverse)
  · exact False.elim k1
end
end NV

set_option Elab.async false
set_option linter.all false
set_option maxRecDepth 100000
set_option maxHeartbeats 4000000
/-! Lay18: a list turned about, fresh. -/
namespace NV
open PySem PySem.Spec PyProof.Rows L2
section
variable {X : Cx} {c : Lv} {e : Expr} {f : Ev} {pos p1 p2 p3 : Pos}
theorem ro_revL {k : Nat} (he : PE X e (tE X.K c f)) : PE X (.Subscript e (.Slice none none (some (.UnaryOp .USub (.Constant (.int 1) k p1) p2)) p3) pos) (tO X.K c (own (e1 opRevL f))) := PE_imp (pe_revL he) fun σ H Q q => by
  obtain ⟨π, ρ, G, S, k⟩ := q
  unfold own e1 at k
  rw [Res.bind_bind] at k
  refine ⟨π, ρ, G, S, (Po.bind k).mono fun d1 ρ1 G1 H1 _ e1 S1 k1 w1 r1 => ?_⟩
  cases r1 with
  | lst h1 h2 => exact ⟨_, _, rfl, SqL.of (S1.sub _ _ h1), own_new S1 e1 k1 h2.reverse⟩
  | scr h1 h2 => exact ⟨_, _, rfl, S1.sub.seq h1, own_new S1 e1 k1 h2.reverse⟩
  | _ => exact False.elim k1
theorem re_revL {k : Nat} (he : PE X e (tE X.K c f)) : PE X (.Subscript e (.Slice none none (some (.UnaryOp .USub (.Constant (.int 1) k p1) p2)) p3) pos) (tE X.K c (e1 opRevL f)) := PE_imp (pe_revL he) fun σ H Q q => by
  obtain ⟨π, ρ, G, S, k⟩ := q
  refine ⟨π, ρ, G, S, (Po.bind k).mono fun d1 ρ1 G1 H1 _ e1 S1 k1 w1 r1 => ?_⟩
  cases r1 with
  | lst h1 h2 => exact ⟨_, _, rfl, SqL.of (S1.sub _ _ h1), Fin.lst S1.sub h2.reverse fun w G' H' g rw' => k1.grow S1 g w rw'⟩
  | scr h1 h2 => exact ⟨_, _, rfl, S1.sub.seq h1, Fin.lst S1.sub h2.reverse fun w G' H' g rw' => k1.grow S1 g w rw'⟩
  | _ => exact False.elim k1
end
end NV

set_option Elab.async false
set_option linter.all false
set_option maxRecDepth 100000
set_option maxHeartbeats 4000000
/-! Lay19: enumerate over a text. -/
namespace NV
open PySem PySem.Spec PyProof.Rows L2
/-- a text, each sign in a new pair -/
def Itse (x : Str) : It :=
  ⟨fun i _ => i < x.cps.size, fun i H v H' => ∃ T c, v = .ref T ∧ H T = none ∧ H' = upd H T (.tup [.int (i : Nat), .str ⟨#[c]⟩]) ∧ x.cps[i]? = some c, fun i _ => x.cps.size ≤ i⟩
theorem turn_enumS {P : Program} {w : World} {K : PySem.W.Frag} {elts : List Expr} {kk : Nat} {tpos : Pos} (x : Str) (t : Tok) (e it : Addr) :
    Turn P w K (.Tuple elts kk tpos) (Itse x) [e, it] e (fun i h => (∃ old, IsEnum h e it ((i : Nat) : Int) old) ∧ (i ≤ x.cps.size ∧ h.IsStrIter it (strIterType x) x t i) ∧ e ≠ it) where
  mem := by simp
  obj := fun i h st b hb => by
    obtain ⟨⟨old, he⟩, ⟨_, o, ho, hc, hd⟩, _⟩ := st
    have e' : b = e ∨ b = it := by simpa using hb
    rcases e' with z | z
    · rw [z]; exact ⟨_, he, fun v q => nomatch q⟩
    · rw [z]; exact ⟨o, ho, fun v q => by rw [hd] at q; cases q⟩
  keep := fun i h h' st k => by
    obtain ⟨⟨old, he⟩, ⟨hl, o, ho, hr⟩, hne⟩ := st
    exact ⟨⟨old, k e (by simp) _ he⟩, ⟨hl, o, k it (by simp) o ho, hr⟩, hne⟩
  item := by
    intro X hP hw hK hc i pins s σ H E I hf st hg
    subst hP hw hK
    obtain ⟨⟨old, he⟩, ⟨_, hit⟩, hne⟩ := st
    have hlt : i < x.cps.size := hg
    have hel : e < s.heap.objs.size := Heap.lt_size he
    have hil : it < s.heap.objs.size := by obtain ⟨_, q, _⟩ := hit; exact Heap.lt_size q
    refine wpAny_pyNext_enum_itemD (Draws.text (A := X.A.in1) (I.ok.hd hc) it x t) he hit hlt hne (by simpa using hne) fun u h' tk hP' ho hit' hT hsz hk => ?_
    obtain ⟨c, tu, hcx, rfl⟩ := hP'
    refine ⟨_, rfl, wpAny_letOwnedTupleGo_enum (s := { s with heap := h', toks := tk + 1 }) ho fun h'' he' sb => ?_⟩
    have hT2 : h''.get? s.heap.objs.size = some { cls := .type "tuple", data := .seq #[.int i tk, .str ⟨#[c]⟩ tu] } := (sb.2 _ (Nat.ne_of_gt hel)).trans hT
    have new : ObjOk X.prog X.w (upd H s.heap.objs.size (.tup [.int (i : Nat), .str ⟨#[c]⟩])) h'' s.heap.objs.size (.tup [.int (i : Nat), .str ⟨#[c]⟩]) :=
      ⟨by show 2 ≤ sizeLine; decide, [.int i tk, .str ⟨#[c]⟩ tu], .cons ⟨_, rfl⟩ (.cons ⟨tu, rfl⟩ .nil), ⟨_, hT2, rfl, _, rfl⟩⟩
    have I1 : Inv X pins σ (upd H s.heap.objs.size (.tup [.int (i : Nat), .str ⟨#[c]⟩])) { s with heap := h'', toks := tk + 1 } :=
      I.turnedNew (ch := [e, it]) (fun b ob hb q => (sb.2 b (fun z => hb (by simp [z]))).trans (hk b ob (fun z => hb (by simp [z])) (fun z => hb (by simp [z])) q)) hf (Nat.le_refl _) new
    refine ⟨.ref s.heap.objs.size, _, I1, rfl, ⟨_, c, rfl, I.hok.fresh (Nat.le_refl _), rfl, hcx⟩, ⟨⟨.str ⟨#[c]⟩ tu, ?_⟩, ⟨hlt, ?_⟩, hne⟩, fun b hb => ?_⟩
    · have e1 : ((i + 1 : Nat) : Int) = (i : Int) + 1 := by omega
      rw [e1]; exact he'
    · obtain ⟨o, ho, hr⟩ := hit'
      exact ⟨o, (sb.2 it (Ne.symm hne)).trans ho, hr⟩
    · have hb' : b < s.heap.objs.size := by
        have e' : b = e ∨ b = it := by simpa using hb
        rcases e' with z | z
        · rw [z]; exact hel
        · rw [z]; exact hil
      rw [upd_ne (Nat.ne_of_lt hb')]
      exact (hf b hb).1
  done := by
    intro X hP hw hK hc i pins s σ H E I hf st hg
    subst hP hw hK
    obtain ⟨⟨old, he⟩, ⟨hl, hit⟩, hne⟩ := st
    have hge : x.cps.size ≤ i := hg
    have ei : i = x.cps.size := by omega
    subst ei
    obtain ⟨f0, f1, f2, f3, f4, f5⟩ := hf it (by simp)
    exact wpAny_pyNext_enum_endD (Draws.text (A := X.A.in1) (I.ok.hd hc) it x t) he hit fun h' eb => ⟨rfl, I.turned (t' := s.toks) (fun b o hb q => eb b o hb q) f0 f1 f3 f4 f5⟩
  self := fun A i s Q E st h => let ⟨⟨_, he⟩, _⟩ := st; wpAny_pyIter_enum he h
def iEnumS (ta : TA) : TI := fun σ H R => ta σ H fun vs H1 => ∃ x, vs = [.str x] ∧ R (Itse x) H1
theorem pi_enumS {X : Cx} {e : Expr} {ta : TA} {p pos tpos : Pos} {elts : List Expr} {kk : Nat} (hg : Gl X "enumerate") (hm : X.mg "enumerate" = none) (ha : PA X [e] ta) (hs : starEach [e] X.env = [(false, eval e X.env)] := by rfl) :
    PI X (.Tuple elts kk tpos) (.Call (.Name "enumerate" p) [e] [] pos) (iEnumS ta) := by
  refine ⟨fun pins s σ H R I h => ?_⟩
  refine Call_ (ld_blt I hg hm boot_enumerate (PyProof.Rows.callWith_type1 (thn (ha.run pos pins s σ H _ I h) fun us s1 ⟨vs, H1, I1, r1, q1⟩ => ?_) hs rfl))
  obtain ⟨x, ex, q⟩ := q1
  subst ex
  cases r1 with
  | cons r rr =>
    cases rr
    obtain ⟨t, rfl⟩ := r
    refine call_enumerate_str fun h' he hit hsz hk => wpAny_pyIter_enum he ?_
    have I2 : Inv X pins σ H1 { s1 with heap := h' } := I1.kept (t' := s1.toks) hk
    refine ⟨s1.heap.objs.size + 1, [s1.heap.objs.size + 1, s1.heap.objs.size], _, _, H1, rfl, I2, turn_enumS x t (s1.heap.objs.size + 1) s1.heap.objs.size, ⟨⟨.none, he⟩, ⟨Nat.zero_le _, hit⟩, Nat.succ_ne_self _⟩, fun b hb => ?_, q⟩
    have e' : b = s1.heap.objs.size + 1 ∨ b = s1.heap.objs.size := by simpa using hb
    have hle : s1.heap.objs.size ≤ b := by
      rcases e' with z | z
      · rw [z]; exact Nat.le_add_right _ _
      · rw [z]; exact Nat.le_refl _
    exact I1.fpOk hle (I1.hok.fresh hle)
theorem itok_enumS {K : PySem.W.Frag} {G : Hp} {s : List Nat} : ItOk K (Itse (ofL s)) G (enumL 0 (s.map fun c => D.str [c])) := by
  have hl : (enumL 0 (s.map fun c => D.str [c])).length = (ofL s).cps.size := by
    rw [enumL_len, List.length_map]
    exact (ofL_len s).symm
  refine itok_pair (K := K) (G := G) (n := (ofL s).cps.size) (C := fun _ => True) (xs := fun i => some (.int (i : Nat))) (ys := fun i => (s[i]?).map fun c => .str ⟨#[c]⟩) hl ⟨fun _ _ hi _ => hi, fun _ _ => Nat.le_refl _, fun i H v H' _ _ y => ?_⟩ (fun _ _ => trivial) fun i x y e1 e2 => ?_
  · obtain ⟨T, c, h1, h2, h3, h4⟩ := y
    have : s[i]? = some c := by
      have := h4
      rw [← Array.getElem?_toList, ofL_cps] at this
      exact this
    exact ⟨T, _, _, h1, h2, h3, rfl, by dsimp only; rw [this]; rfl⟩
  · cases e1
    cases h : s[i]? with
    | none => rw [h] at e2; cases e2
    | some c =>
      rw [h] at e2
      obtain rfl := Option.some.inj e2
      exact ⟨.int i, .str [c], by rw [enumL_get, List.getElem?_map, h]; simp, .int _, .str [c]⟩
section
variable {X : Cx} {c : Lv} {a : Expr} {f : Ev} {pos p : Pos} {tg : Expr}
theorem ri_enum2 {elts : List Expr} {kk : Nat} {tpos : Pos} (hg : Gl X "enumerate") (hm : X.mg "enumerate" = none) (ha : PE X a (tE X.K c f)) (hs : starEach [a] X.env = [(false, eval a X.env)] := by rfl) : PI X (.Tuple elts kk tpos) (.Call (.Name "enumerate" p) [a] [] pos) (tI X.K c (iEnum2 f)) := ⟨fun pins s σ H R I q => by
  obtain ⟨π, ρ, G, S, k⟩ := q
  by_cases z : ∃ t ρ1, f ρ = .ok (.str t) ρ1
  · obtain ⟨t, ρ1, z⟩ := z
    have k' := Po.bind k
    refine (pi_enumS hg hm (pa_cons ha pa_nil hs) hs).run pins s σ H R I ⟨π, ρ, G, S, ?_⟩
    rw [z] at k' ⊢
    intro G1 H1 s1 e1 S1 w rw'
    cases rw'
    exact ⟨_, rfl, (k' G1 H1 s1 e1 S1).now S1 _ itok_enumS⟩
  · refine (ri_enum hg hm ha hs).run pins s σ H R I ⟨π, ρ, G, S, ?_⟩
    have e : iEnum2 f ρ = iEnum f ρ := by
      unfold iEnum2 iEnum
      cases h : f ρ with
      | ok d ρ1 =>
        cases d <;> first | rfl | exact absurd ⟨_, _, h⟩ z
      | rz x ρ1 => rfl
      | st => rfl
    rw [← e]
    exact k⟩
end
end NV

set_option Elab.async false
set_option linter.all false
set_option maxRecDepth 100000
set_option maxHeartbeats 4000000
/-! Lay20: a copy of an own list. -/
namespace NV
open PySem PySem.Spec PyProof.Rows L2
section
variable {X : Cx} {c : Lv} {pos p p2 : Pos} {x : Str}
theorem re_listO (i : Nat) (hg : Gl X "list") (hm : X.mg "list" = none) (hN : X.N[i]? = some x) (hv : Vis X.env.scope x) (hd : (x == ("__debug__" : Str)) = false := by decide) (hcd : (x == ("__classdict__" : Str)) = false := by decide)
    (hs : starEach [.Name x p2] X.env = (false, eval (.Name x p2) X.env) :: starEach [] X.env := by rfl) : PE X (.Call (.Name "list" p) [.Name x p2] [] pos) (tE X.K c (eListO i)) := by
  refine PE_imp (pe_callTy (T := "list") callr_U hg hm rfl (pa_cons (pe_var hN hv hd hcd) pa_nil hs) (by decide) (by decide) hs rfl) fun σ H Q q => ?_
  obtain ⟨π, ρ, G, S, k⟩ := q
  unfold eListO at k
  cases z : held ρ i with
  | none => simp only [z] at k; exact False.elim k
  | some d =>
    cases d with
    | lst ys =>
      simp only [z] at k
      obtain ⟨p', a1, a2, ws', a3, a4⟩ := held_of S z
      have h : Fin X.K G H Q (.lst ys) := fun w G' H' g r => k.grow S g w r
      exact ⟨.ref p', a1, rUC_of call_list_of ⟨_, _, rfl, .inl (SqL.of a3), h.lst S.sub a4⟩⟩
    | _ => simp only [z] at k; exact False.elim k
theorem cd_int : CallD1 X (.type "int") opInt := by
  refine ⟨fun {G H x a d Q} s ra e h => ?_⟩
  cases ra with
  | int i =>
    obtain rfl := Option.some.inj e
    exact rUC_of call_int1 (.inl ⟨_, rfl, h.int s⟩)
  | bl b =>
    obtain rfl := Option.some.inj e
    exact rUC_of call_int1 (.inr ⟨_, rfl, h.int s⟩)
  | _ => simp [opInt] at e
end
end NV

set_option Elab.async false
set_option linter.all false
set_option maxRecDepth 100000
set_option maxHeartbeats 4000000
/-! Lay21: range(a, b) of numbers of any size. -/
namespace NV
open PySem PySem.Spec PyProof.Rows L2
theorem turn_rangeL {P : Program} {w : World} {K : PySem.W.Frag} {tg : Expr} (it : Addr) (lo : Int) (n : Nat) : Turn P w K tg (Itr lo n) [it] it (fun i h => IsLongIter h it (lo + (i : Nat) * 1) ((n : Int) - (i : Nat)) 1) where
  mem := by simp
  obj := fun i h st b hb => by
    have e : b = it := by simpa using hb
    subst e
    exact ⟨_, st, fun v z => by
      have z' : Data.fields _ = Data.cell v := z
      cases z'⟩
  keep := fun i h h' st k => k it (by simp) _ st
  item := by
    intro X hP hw hK hc i pins s σ H E I hf st hg
    subst hP hw hK
    obtain ⟨f0, f1, f2, f3, f4, f5⟩ := hf it (by simp)
    have W := Walks.longrange (prog := X.prog) (w := X.w) (I.ok.hd hc) it lo 1 n
    refine W.item i s _ _ hg st fun v h' tk hv st' kk => ?_
    obtain ⟨t, rfl⟩ := hv
    have I1 : Inv X pins σ H { s with heap := h', toks := tk } := I.turned (fun b o hb e => kk b o (by simpa using hb) e) f0 f1 f3 f4 f5
    refine ⟨_, rfl, go_of (s := { s with heap := h', toks := tk }) (n := "longrange_iterator") st' rfl rfl (by decide) ⟨.int (lo + i), H, I1, ⟨t, ?_⟩, ⟨rfl, rfl⟩, st', fun b hb => (hf b hb).1⟩⟩
    rw [Int.mul_one]
  done := by
    intro X hP hw hK hc i pins s σ H E I hf st hg
    subst hP hw hK
    obtain ⟨f0, f1, f2, f3, f4, f5⟩ := hf it (by simp)
    exact wpAny_pyNext_long_end (I.ok.hd hc) st (by have : n ≤ i := hg; omega) fun h' eb => ⟨rfl, I.turned (t' := s.toks) (fun b o hb e => eb b o hb e) f0 f1 f3 f4 f5⟩
  self := fun _ _ _ _ _ st h => wpAny_pyIter_longiter st h
section
variable {X : Cx} {tg : Expr}
theorem range_itL {pins : List (Addr × Obj)} {σ : St} {H : Hp} {s : Shared} {R : It → Hp → Prop} {E : Value → Shared → Prop} {lo hi : Int} {t u v : Tok} {tk : Nat} (I : Inv X pins σ H s)
    (q : R (Itr lo (hi - lo).toNat) H) : wpAny (model X.prog X.w) X.A (pyIter (.ref s.heap.objs.size)) (PIE X pins σ tg R) E { s with heap := s.heap.push { cls := .type "range", data := .fields #[.int lo t, .int hi u, .int 1 v] }, toks := tk } := by
  have I1 : Inv X pins σ H { s with heap := s.heap.push { cls := .type "range", data := .fields #[.int lo t, .int hi u, .int 1 v] }, toks := tk } := I.kept fun b o e => Heap.get?_push_of_some _ e
  have e1 : lo + ((0 : Nat) : Int) * 1 = lo := by simp
  have e2 : (((hi - lo).toNat : Nat) : Int) - ((0 : Nat) : Int) = Builtin.Range.rangeSize lo hi 1 := by rw [rangeSize_one]; split <;> omega
  by_cases hs : Builtin.Range.small lo hi 1 = true
  · refine wpAny_pyIter_range (IsRange.new ..) hs ?_
    refine ⟨(s.heap.push { cls := .type "range", data := .fields #[.int lo t, .int hi u, .int 1 v] }).objs.size, [(s.heap.push { cls := .type "range", data := .fields #[.int lo t, .int hi u, .int 1 v] }).objs.size], _, _, H, rfl,
      I1.kept (t' := tk) fun b o e => Heap.get?_push_of_some _ e, turn_range _ lo (hi - lo).toNat, ?_, fun b hb => ?_, q⟩
    · show IsRangeIter _ _ (lo + ((0 : Nat) : Int) * 1) ((((hi - lo).toNat : Nat) : Int) - ((0 : Nat) : Int)) 1
      rw [e1, e2]
      exact Heap.get?_push_size _ rfl
    · have e : b = (s.heap.push { cls := .type "range", data := .fields #[.int lo t, .int hi u, .int 1 v] }).objs.size := by simpa using hb
      subst e
      exact I1.fpOk (Nat.le_refl _) (I1.hok.fresh (Nat.le_refl _))
  · refine wpAny_pyIter_longrange (IsRange.new ..) (by simpa using hs) ?_
    refine ⟨(s.heap.push { cls := .type "range", data := .fields #[.int lo t, .int hi u, .int 1 v] }).objs.size, [(s.heap.push { cls := .type "range", data := .fields #[.int lo t, .int hi u, .int 1 v] }).objs.size], _, _, H, rfl,
      I1.kept (t' := tk) fun b o e => Heap.get?_push_of_some _ e, turn_rangeL _ lo (hi - lo).toNat, ?_, fun b hb => ?_, q⟩
    · show IsLongIter _ _ (lo + ((0 : Nat) : Int) * 1) ((((hi - lo).toNat : Nat) : Int) - ((0 : Nat) : Int)) 1
      rw [e1, e2]
      exact Heap.get?_push_size _ rfl
    · have e : b = (s.heap.push { cls := .type "range", data := .fields #[.int lo t, .int hi u, .int 1 v] }).objs.size := by simpa using hb
      subst e
      exact I1.fpOk (Nat.le_refl _) (I1.hok.fresh (Nat.le_refl _))
def iRng2w (ta : TA) : TI := fun σ H R => ta σ H fun vs H1 => ∃ i j : Int, vs = [.int i, .int j] ∧ R (Itr i (j - i).toNat) H1
theorem pi_range2w {a b : Expr} {ta : TA} {p pos : Pos} (hg : Gl X "range") (hm : X.mg "range" = none) (ha : PA X [a, b] ta) (hs : starEach [a, b] X.env = [(false, eval a X.env), (false, eval b X.env)] := by rfl) (hs2 : starEach [b] X.env = [(false, eval b X.env)] := by rfl) :
    PI X tg (.Call (.Name "range" p) [a, b] [] pos) (iRng2w ta) := by
  refine ⟨fun pins s σ H R I h => ?_⟩
  refine Call_ (ld_blt I hg hm boot_range (PyProof.Rows.callWith_type1 (thn (ha.run pos pins s σ H _ I h) fun us s1 ⟨vs, H1, I1, r1, q1⟩ => ?_) (by rw [hs, hs2]) (by rw [hs2]; rfl)))
  obtain ⟨i, j, e, q⟩ := q1
  subst e
  cases r1 with
  | cons r rr =>
    cases rr with
    | cons r' rr =>
      cases rr
      obtain ⟨t, rfl⟩ := r
      obtain ⟨t', rfl⟩ := r'
      exact call_range_2 (range_itL I1 q)
variable {c : Lv} {a b : Expr} {f h : Ev} {pos p : Pos}
theorem ri_r2w (hg : Gl X "range") (hm : X.mg "range" = none) (ha : PE X a (tE X.K c f)) (hb : PE X b (tE X.K c h)) (hs : starEach [a, b] X.env = [(false, eval a X.env), (false, eval b X.env)] := by rfl) (hs2 : starEach [b] X.env = [(false, eval b X.env)] := by rfl) : PI X tg (.Call (.Name "range" p) [a, b] [] pos) (tI X.K c (iR2w f h)) := ⟨fun pins s σ H R I q => by
  obtain ⟨π, ρ, G, S, k⟩ := q
  refine (pi_range2w hg hm (pa_cons ha (pa_cons hb pa_nil hs2) (by rw [hs, hs2])) hs hs2).run pins s σ H R I ⟨π, ρ, G, S, (Po.bind k).mono fun d1 ρ1 G1 H1 _ _ S1 k1 w1 r1 => ⟨π, ρ1, G1, S1, (Po.bind k1).mono fun d2 ρ2 G2 H2 s2 _ S2 k2 w2 r2 => ?_⟩⟩
  cases d1 <;> cases d2 <;> first | exact False.elim k2 | skip
  rename_i i j
  obtain rfl := r1.int_iff
  obtain rfl := r2.int_iff
  exact ⟨i, j, rfl, k2.now S2 _ itok_range⟩⟩
end
end NV

set_option Elab.async false
set_option linter.all false
set_option maxRecDepth 100000
set_option maxHeartbeats 4000000
/-! Lay22: a list whose lists are changed behind the tests, and then forgotten. -/
namespace NV
open PySem PySem.Spec PyProof.Rows L2
section
variable {K : PySem.W.Frag} {π : Nat → Addr} {ρ ρ0 : Env} {G G0 Gx G' : Hp} {σ σ0 : St} {H H0 H' : Hp} {c : Lv} {i : Nat} {d : D}
theorem noOwn (h : ρ.all noOwnS = true) {b : Addr} : ¬ Ownd ρ σ b := fun ⟨j, s, h1, h2, _⟩ => by
  have q := List.all_eq_true.1 h s (List.mem_of_getElem? h1)
  cases s with
  | un => cases h2
  | v d => cases h2
  | o d => cases q
  | io k d => cases q
theorem noOwn_set (h : ρ.all noOwnS = true) {s : Sl} (hs : noOwnS s = true) : (ρ.set i s).all noOwnS = true := by
  rw [List.all_eq_true]
  intro x hx
  rcases List.mem_or_eq_of_mem_set hx with q | q
  · exact List.all_eq_true.1 h x q
  · subst q; exact hs
/-- no slot is owned: the heap may turn about -/
theorem SE.free (S : SE K π ρ G σ H) (h : ρ.all noOwnS = true) (s : Same G H') : SE K π ρ G σ H' := by
  refine ⟨s, S.len, fun j t e => ?_, fun j k b s t h1 _ o1 _ q1 _ => absurd ⟨j, s, h1, o1, q1⟩ (noOwn h)⟩
  have k := S.ok j t e
  have q := List.all_eq_true.1 h t (List.mem_of_getElem? e)
  cases t with
  | un => trivial
  | v d => exact k
  | o d => cases q
  | io k d => cases q
def Hp.join (G G' : Hp) : Hp := fun b => match G b with
  | some o => some o
  | none => G' b
theorem join_l : Same G (Hp.join G G') := fun b o h => by unfold Hp.join; rw [h]
theorem join_r (s : Same G H) (s' : Same G' H) : Same G' (Hp.join G G') := fun b o h => by
  unfold Hp.join
  cases e : G b with
  | none => exact h
  | some x =>
    have := s _ _ e
    rw [s' _ _ h] at this
    exact this.symm
theorem join_s (s : Same G H) (s' : Same G' H) : Same (Hp.join G G') H := fun b o h => by
  unfold Hp.join at h
  cases e : G b with
  | none => rw [e] at h; exact s' _ _ h
  | some x => rw [e] at h; rw [← h]; exact s _ _ e
structure Tree (K : PySem.W.Frag) (π : Nat → Addr) (ρ : Env) (i : Nat) (d : D) (G0 Gx : Hp) (σ : St) (H : Hp) (ρ0 : Env) (σ0 : St) (H0 : Hp) : Prop where
  no : ρ.all noOwnS = true
  no0 : ρ0.all noOwnS = true
  sub0 : Same G0 H0
  keep : Same H0 H
  at' : ρ[i]? = some (.v d)
  S : SE K π (ρ.set i .un) G0 σ H
  rep : ∃ w, σ[i]? = some (some w) ∧ Rep K Gx w d
  sx : Same Gx H
  sep : ∀ b xs, Gx b = some (.lst xs) → H0 b = none
def tF (K : PySem.W.Frag) (c : Lv) (i : Nat) (g : Es) : TS := fun D σ H => ∃ π ρ d G0 Gx ρ0 σ0 H0, Tree K π ρ i d G0 Gx σ H ρ0 σ0 H0 ∧ PoS K c π ρ0 G0 σ0 H0 (g ρ) D
theorem Tree.both (T : Tree K π ρ i d G0 Gx σ H ρ0 σ0 H0) : SE K π ρ (Hp.join G0 Gx) σ H := by
  refine ⟨join_s T.S.sub T.sx, by rw [← T.S.len, List.length_set], fun j s e => ?_, fun j k b s t h1 _ o1 _ q1 _ => absurd ⟨j, s, h1, o1, q1⟩ (noOwn T.no)⟩
  by_cases ji : j = i
  · subst ji
    obtain rfl := Option.some.inj (T.at'.symm.trans e)
    obtain ⟨w, e1, r⟩ := T.rep
    exact ⟨w, e1, r.mono (join_r T.S.sub T.sx) _⟩
  · have k := T.S.ok j s (by rw [List.getElem?_set_ne (Ne.symm ji)]; exact e)
    have q := List.all_eq_true.1 T.no s (List.mem_of_getElem? e)
    cases s with
    | un => trivial
    | v d =>
      obtain ⟨w, e1, r⟩ := k
      exact ⟨w, e1, r.mono join_l _⟩
    | o d => cases q
    | io k d => cases q
theorem Tree.turn (T : Tree K π ρ i d G0 Gx σ H ρ0 σ0 H0) (s : Same H H') : Tree K π ρ i d G0 Gx σ H' ρ0 σ0 H0 :=
  ⟨T.no, T.no0, T.sub0, T.keep.trans s, T.at', T.S.free (noOwn_set T.no rfl) (T.S.sub.trans s), T.rep, T.sx.trans s, T.sep⟩
theorem Tree.ext (T : Tree K π ρ i d G0 Gx σ H ρ0 σ0 H0) (s : Same H0 H') : Ext ρ0 σ0 G0 H0 (ρ.set i .un) σ G0 H' := fun b o h n =>
  ⟨s _ _ h, noOwn (noOwn_set T.no rfl), fun z => z⟩
/-- what is tracked, without the lists -/
def Hp.thin (G : Hp) : Hp := fun b => match G b with
  | some (.lst _) => none
  | o => o
theorem thin_s : Same (Hp.thin G) G := fun b o h => by
  unfold Hp.thin at h
  split at h
  · cases h
  · exact h
theorem thin_lst {b : Addr} {xs : List V} (h : G b = some (.lst xs)) : Hp.thin G b = none := by unfold Hp.thin; rw [h]
theorem thin_not {b : Addr} {o : HO} (h : G b = some o) : Hp.thin G b = some o ∨ ∃ xs, o = .lst xs := by
  unfold Hp.thin
  rw [h]
  split
  · rename_i xs e
    exact .inr ⟨xs, Option.some.inj e⟩
  · exact .inl rfl
theorem Reps.flats : ∀ {ds : List D} {vs : List V}, ds.all D.flat = true → Reps K G vs ds → Reps K G' vs ds
  | [], _, _, h => by cases h; exact .nil
  | d :: ds, _, f, h => by
    cases h with
    | cons h1 h2 =>
      rw [List.all_cons, Bool.and_eq_true] at f
      exact .cons (h1.flat f.1 _) (Reps.flats f.2 h2)
theorem Rep.thin {w : V} (f : thinD d = true) (h : Rep K G w d) : Rep K (Hp.thin G) w d := by
  cases d with
  | tup ds =>
    cases h with
    | tup h1 h2 =>
      refine .tup ?_ (Reps.flats f h2)
      rcases h1 with (h | ⟨o, h⟩) | h
      · rcases thin_not h with q | ⟨_, q⟩
        · exact .inl (.inl q)
        · cases q
      · rcases thin_not h with q | ⟨_, q⟩
        · exact .inl (.inr ⟨o, q⟩)
        · cases q
      · exact .inr h
  | non => cases h; exact .non
  | bl b => cases h; exact .bl b
  | int b => cases h; exact .int b
  | str b => cases h; exact .str b
  | _ => exact absurd (show false = true from f) Bool.false_ne_true
theorem thin_no : (ρ.map thinS).all noOwnS = true := by
  rw [List.all_eq_true]
  intro x hx
  obtain ⟨s, _, rfl⟩ := List.mem_map.1 hx
  cases s with
  | v d =>
    show noOwnS (if thinD d = true then .v d else .un) = true
    by_cases hd : thinD d = true
    · rw [if_pos hd]; rfl
    · rw [if_neg hd]; rfl
  | un => rfl
  | o d => rfl
  | io k d => rfl
theorem SE.thin (S : SE K π ρ G σ H) : SE K π (ρ.map thinS) (Hp.thin G) σ H := by
  refine ⟨thin_s.trans S.sub, by rw [List.length_map]; exact S.len, fun j t e => ?_, fun j k b s t h1 _ o1 _ q1 _ => absurd ⟨j, s, h1, o1, q1⟩ (noOwn thin_no)⟩
  rw [List.getElem?_map] at e
  cases z : ρ[j]? with
  | none => rw [z] at e; cases e
  | some s =>
    rw [z] at e
    obtain rfl := Option.some.inj e
    have k := S.ok j s z
    cases s with
    | v d =>
      show SlOk K π (Hp.thin G) H σ[j]? (if thinD d = true then .v d else .un)
      by_cases hd : thinD d = true
      · rw [if_pos hd]
        obtain ⟨w, e1, r⟩ := k
        exact ⟨w, e1, r.thin hd⟩
      · rw [if_neg hd]; trivial
    | un => trivial
    | o d => trivial
    | io k d => trivial
end
section
variable {X : Cx} {c : Lv} {a b e e1 e2 e3 : Expr} {f f1 f2 f3 : Ev} {pos p apos cpos pos' : Pos} {x : Str} {sts sa : List Stmt} {A B : Es}
theorem rss_tree (i : Nat) {pos' : Pos} (hN : X.N.Nodup) (hi : X.N[i]? = some x) (hx : Loc X.env.scope x) (he : PE X e (tE X.K c f)) (hb : PSs X sts (tF X.K c i B)) (hs : swapsWith e (some (.Name x pos')) pos.line X.env = pure false := by rfl) (hf : X.fn x = true ∨ X.env.scope.names.lookup x = some .local := by first | exact .inl rfl | exact .inr rfl | assumption) :
    PSs X (.Assign [.Name x pos'] e pos :: sts) (tS X.K c (sTree i f B)) := PSs_imp (pss_cons (ps_set hN hi hx he hs hf) hb) fun D σ H q => by
  obtain ⟨π, ρ, G, S, k⟩ := q
  unfold sTree at k
  by_cases hc : ρ.all noOwnS = true ∧ i < ρ.length
  · rw [if_pos hc] at k
    obtain ⟨no, il⟩ := hc
    refine ⟨π, ρ.map thinS, Hp.thin G, S.thin, ?_⟩
    cases z : f (ρ.map thinS) with
    | ok d ρ' =>
      rw [z] at k
      intro G' H' s' e' S' w r
      have kp : Same H H' := fun b o h => (e' b o h (noOwn thin_no)).1
      have Su := (S.free no (S.sub.trans kp))
      refine ⟨π, ρ.set i (.v d), d, G, G', ρ, σ, H, ⟨noOwn_set no rfl, no, S.sub, kp, List.getElem?_set_self il, ?_, ⟨w, List.getElem?_set_self (by rw [← S.len]; exact il), r⟩, S'.sub, fun b xs h => ?_⟩, k⟩
      · rw [List.set_set]
        refine ⟨Su.sub, by rw [List.length_set, List.length_set]; exact S.len, fun j s h => ?_, fun j k b s t h1 _ o1 _ q1 _ => absurd ⟨j, s, h1, o1, q1⟩ (noOwn (noOwn_set no rfl))⟩
        rcases getset h with ⟨rfl, _, rfl⟩ | ⟨ne, h⟩
        · trivial
        · rw [sset ne]; exact Su.ok j s h
      · cases o : H b with
        | none => rfl
        | some ob =>
          exfalso
          obtain ⟨h1, _, h3⟩ := e' b ob o (noOwn thin_no)
          cases g : Hp.thin G b with
          | none => rw [h3 g] at h; cases h
          | some o2 =>
            have h4 := s' _ _ g
            rw [h] at h4
            obtain rfl := Option.some.inj h4
            have h5 : G b = some (.lst xs) := thin_s _ _ g
            rw [thin_lst h5] at g
            cases g
    | rz _ _ => rw [z] at k; exact False.elim k
    | st => rw [z] at k; exact False.elim k
  · rw [if_neg hc] at k; exact False.elim k
theorem rss_test {i : Nat} (hc : PT X e (tT X.K c f)) (ha : PSs X sa (tS X.K c A)) (hb : PSs X sts (tF X.K c i B)) :
    PSs X (.If e sa [] pos :: sts) (tF X.K c i (sTest i f A B)) := PSs_imp (pss_cons (ps_if hc ha pss_nil) hb) fun D σ H q => by
  obtain ⟨π, ρ, d, G0, Gx, ρ0, σ0, H0, T, k⟩ := q
  refine ⟨π, ρ, _, T.both, ?_⟩
  unfold sTest at k
  cases z : f ρ with
  | ok b ρ1 =>
    rw [z] at k
    intro G' H' s' e' S'
    have kp : Same H H' := fun b o h => (e' b o h (noOwn T.no)).1
    have T' := T.turn kp
    cases b with
    | bl v =>
      refine ⟨v, rfl, ?_⟩
      cases v with
      | true =>
        refine iteT ⟨π, _, G0, T'.S, ?_⟩
        have k2 := PoS.step (Same.refl _) (T'.ext T'.keep) k
        simp only at k2
        cases y : A (ρ.set i .un) with
        | ok fl ρ2 =>
          rw [y] at k2
          cases fl with
          | ret r => exact k2
          | _ => exact False.elim k2
        | rz _ _ => rw [y] at k2; exact False.elim k2
        | st => rw [y] at k2; exact False.elim k2
      | false => exact iteF ⟨π, ρ, d, G0, Gx, ρ0, σ0, H0, T', k⟩
    | _ => exact False.elim k
  | rz _ _ => rw [z] at k; exact False.elim k
  | st => rw [z] at k; exact False.elim k
def tMut (K : PySem.W.Frag) (c : Lv) (tb : TE) (f : Ev) : TS := fun D σ H => tb σ H fun x H1 => ∃ p xs, x = .ref p ∧ H1 p = some (.lst xs) ∧ tE K c f σ H1 fun w H2 => ∃ ys, H2 p = some (.lst ys) ∧ ys.length < line ∧ D.nx σ (upd H2 p (.lst (ys ++ [w])))
def Mono (tb : TE) : Prop := ∀ σ H Q Q', (∀ v H, Q v H → Q' v H) → tb σ H Q → tb σ H Q'
theorem mono_var {i : Nat} : Mono (tVar i) := fun σ H Q Q' m ⟨v, h, q⟩ => ⟨v, h, m _ _ q⟩
theorem mono_ix {tb : TE} {K : PySem.W.Frag} {n : Int} (h : Mono tb) : Mono (tOp (rIxL K) tb (tC (.int n))) := fun σ H Q Q' m q =>
  h σ H _ _ (fun v H1 ⟨p, xs, j, w, a1, a2, a3, a4, a5⟩ => ⟨p, xs, j, w, a1, a2, a3, a4, m _ _ a5⟩) q
theorem ps_mut {tb : TE} (hm : Mono tb) (hbs : PE X b tb) (he : PE X e (tE X.K c f)) (hs : starEach [e] X.env = (false, eval e X.env) :: starEach [] X.env := by rfl)
    (hfew : ((backTo cpos (starEach [e] X.env)).all (fun x => !x.1) && (backToKw cpos (keywordEach [] X.env)).all (fun x => x.1.isSome) && decide ([e].length + ([] : List Keyword).length + (if ([] : List Keyword).isEmpty then 0 else 1) < 30)) = true := by rfl)
    (hline : (apos.endLine == cpos.line) = true := by rfl) (hsw : swapsWith (.Call (.Attribute b "append" apos) [e] [] cpos) none pos.line X.env = pure false := by rfl)
    (hbase : attributeBase b "append" X.env (eval b X.env) = eval b X.env := by rfl) :
    PS X (.Expr (.Call (.Attribute b "append" apos) [e] [] cpos) pos) (tMut X.K c tb f) :=
  PS_imp (ps_expr (pe_bm PySem.F.plainAttrs_list PySem.F.slot_list_append PySem.F.type_list_append mt_append hbs (pa_cons he pa_nil hs) hbase hfew hline hs rfl) hsw) fun D σ H q => by
    refine hm _ _ _ _ (fun v H1 q1 => ?_) q
    obtain ⟨p, xs, rfl, h1, π, ρ, G, S, k⟩ := q1
    refine ⟨.inl ⟨rfl, _, SqL.of h1⟩, π, ρ, G, S, k.mono fun d1 ρ1 G1 H2 _ _ S1 k1 w1 r1 => ?_⟩
    obtain ⟨ys, h2, h3, h4⟩ := k1 w1 r1
    exact ⟨p, ys, w1, rfl, rfl, h2, by rw [← line_eq]; exact h3, h4⟩
theorem atI0 {α : Type} {x : α} {xs : List α} : atI (x :: xs) 0 = some x := by
  simp [atI, L2.ixN]
theorem atI1 {α : Type} {x y : α} {xs : List α} : atI (x :: y :: xs) 1 = some y := by
  have h : (1 : Int) < ((x :: y :: xs).length : Nat) := by simp; omega
  show ((if (0 : Int) ≤ 1 then (if (1 : Int) < ((x :: y :: xs).length : Nat) then some (1 : Int).toNat else none) else _).bind fun j => (x :: y :: xs)[j]?) = some y
  rw [if_pos (by decide), if_pos h]
  rfl
/-- an argument that turns nothing -/
theorem tE_free {K : PySem.W.Frag} {π : Nat → Addr} {ρ ρ' : Env} {G : Hp} {σ : St} {H : Hp} {d : D} {Q : VK} (S : SE K π ρ G σ H) (no : ρ.all noOwnS = true) (z : f ρ = .ok d ρ')
    (h : ∀ w H', Same H H' → Q w H') : tE K c f σ H Q := ⟨π, ρ, G, S, by
  rw [z]
  exact fun G' H' s' e' S' w r => h w H' fun b o h => (e' b o h (noOwn no)).1⟩
theorem rss_mut3 (i : Nat) {px0 px1 px2 pi0 pi1 pi2 pi3 ps0 ps1 ps2 ps3 a1 a2 a3 c1 c2 c3 q1 q2 q3 : Pos} {n1 n2 n3 n4 : Nat} (hN : X.N[i]? = some x) (hv : Vis X.env.scope x) (h1 : PE X e1 (tE X.K c f1)) (h2 : PE X e2 (tE X.K c f2)) (h3 : PE X e3 (tE X.K c f3)) (hb : PSs X sts (tS X.K c B))
    (hd : (x == ("__debug__" : Str)) = false := by decide) (hcd : (x == ("__classdict__" : Str)) = false := by decide)
    (m1 : ∀ {tb : TE} (hm : Mono tb) (hbs : PE X (.Subscript (.Name x px0) (.Constant (.int 0) n1 pi0) ps0) tb), PS X (.Expr (.Call (.Attribute (.Subscript (.Name x px0) (.Constant (.int 0) n1 pi0) ps0) "append" a1) [e1] [] c1) q1) (tMut X.K c tb f1))
    (m2 : ∀ {tb : TE} (hm : Mono tb) (hbs : PE X (.Subscript (.Subscript (.Name x px1) (.Constant (.int 1) n2 pi1) ps1) (.Constant (.int 0) n3 pi2) ps2) tb), PS X (.Expr (.Call (.Attribute (.Subscript (.Subscript (.Name x px1) (.Constant (.int 1) n2 pi1) ps1) (.Constant (.int 0) n3 pi2) ps2) "append" a2) [e2] [] c2) q2) (tMut X.K c tb f2))
    (m3 : ∀ {tb : TE} (hm : Mono tb) (hbs : PE X (.Subscript (.Name x px2) (.Constant (.int 1) n4 pi3) ps3) tb), PS X (.Expr (.Call (.Attribute (.Subscript (.Name x px2) (.Constant (.int 1) n4 pi3) ps3) "append" a3) [e3] [] c3) q3) (tMut X.K c tb f3)) :
    PSs X (.Expr (.Call (.Attribute (.Subscript (.Name x px0) (.Constant (.int 0) n1 pi0) ps0) "append" a1) [e1] [] c1) q1 :: .Expr (.Call (.Attribute (.Subscript (.Subscript (.Name x px1) (.Constant (.int 1) n2 pi1) ps1) (.Constant (.int 0) n3 pi2) ps2) "append" a2) [e2] [] c2) q2 :: .Expr (.Call (.Attribute (.Subscript (.Name x px2) (.Constant (.int 1) n4 pi3) ps3) "append" a3) [e3] [] c3) q3 :: sts) (tF X.K c i (sMut3 i f1 f2 f3 B)) :=
  PSs_imp (pss_cons (m1 (mono_ix mono_var) (pe_ix ix_list (pe_var hN hv hd hcd) pe_int (fun _ _ => rfl)))
    (pss_cons (m2 (mono_ix (mono_ix mono_var)) (pe_ix ix_list (pe_ix ix_list (pe_var hN hv hd hcd) pe_int (fun _ _ => rfl)) pe_int (fun _ _ => rfl)))
      (pss_cons (m3 (mono_ix mono_var) (pe_ix ix_list (pe_var hN hv hd hcd) pe_int (fun _ _ => rfl))) hb))) fun D σ H q => by
    obtain ⟨π, ρ, d, G0, Gx, ρ0, σ0, H0, T, k⟩ := q
    obtain ⟨w, ew, r⟩ := T.rep
    have no := noOwn_set (i := i) (s := .un) T.no rfl
    unfold sMut3 at k
    split at k
    case h_2 => exact False.elim k
    rename_i d' ia as ib bs cs hat
    obtain rfl := Sl.v.inj (Option.some.inj (T.at'.symm.trans hat))
    split at k
    case isFalse => exact False.elim k
    rename_i hl
    obtain ⟨l1, l2, l3⟩ := hl
    split at k
    case h_2 => exact False.elim k
    rename_i d1 ρ1 d2 ρ2 d3 ρ3 z1 z2 z3
    cases r with
    | lst ha ra =>
    cases ra with
    | cons rp rest =>
    cases rest with
    | cons rq nl =>
    cases nl
    cases rp with
    | lst hp rp =>
    cases rp with
    | cons rp1 rp2 =>
    cases rp1
    cases rq with
    | lst hq rq =>
    cases rq with
    | cons rr rq2 =>
    cases rr with
    | lst hr rr =>
    cases rr with
    | cons rr1 rr2 =>
    cases rr1
    rename_i A P PL Q QL R RL
    have lP := rp2.length
    have lQ := rq2.length
    have lR := rr2.length
    have nA := T.sep _ _ ha
    have nP := T.sep _ _ hp
    have nQ := T.sep _ _ hq
    have nR := T.sep _ _ hr
    have hA := T.sx _ _ ha
    have hP := T.sx _ _ hp
    have hQ := T.sx _ _ hq
    have hR := T.sx _ _ hr
    have AP : A ≠ P := fun z => by subst z; rw [hA] at hP; cases hP
    have AR : A ≠ R := fun z => by subst z; rw [hA] at hR; cases hR
    have QP : Q ≠ P := fun z => by subst z; rw [hQ] at hP; cases hP
    have QR : Q ≠ R := fun z => by subst z; rw [hQ] at hR; cases hR
    have kp : Same H0 H := T.keep
    have SU := T.S
    have st0 : ∀ {H H' : Hp} {p : Addr} {o : HO}, Same H0 H → H0 p = none → Same H0 (upd H p o) := fun {H H' p o} s n b x e => by
      rw [upd_ne (fun z => by subst z; rw [n] at e; cases e)]
      exact s _ _ e
    refine ⟨_, ew, _, _, _, _, rfl, rfl, SqL.of hA, atI0, _, _, rfl, hP, tE_free SU no z1 fun w1 H1 s1 => ⟨_, s1 _ _ hP, by simp; omega, ?_⟩⟩
    have kA := st0 (H' := H1) (p := P) (o := .lst (.int ia :: PL ++ [w1])) (kp.trans s1) nP
    have eR : ∃ ys, upd H1 P (.lst (.int ia :: PL ++ [w1])) R = some (.lst ys) ∧ ys.length + 1 < line := by
      by_cases rp : R = P
      · subst rp
        exact ⟨_, upd_same, by simp; omega⟩
      · exact ⟨_, by rw [upd_ne rp]; exact s1 _ _ hR, by simp; omega⟩
    obtain ⟨ys, eR, lys⟩ := eR
    have SA := T.S.free no (T.sub0.trans kA)
    refine ⟨_, ew, _, _, _, _, rfl, rfl, SqL.of (by rw [upd_ne AP]; exact s1 _ _ hA), atI1, _, _, _, _, rfl, rfl, SqL.of (by rw [upd_ne QP]; exact s1 _ _ hQ), atI0, _, _, rfl, eR, tE_free SA no z2 fun w2 H2 s2 => ⟨_, s2 _ _ eR, by omega, ?_⟩⟩
    have kB := st0 (H' := H2) (p := R) (o := .lst (ys ++ [w2])) (kA.trans s2) nR
    have SB := T.S.free no (T.sub0.trans kB)
    have hA2 : upd H2 R (.lst (ys ++ [w2])) A = some (.lst [.ref P, .ref Q]) := by rw [upd_ne AR]; exact s2 _ _ (by rw [upd_ne AP]; exact s1 _ _ hA)
    have hQ2 : upd H2 R (.lst (ys ++ [w2])) Q = some (.lst (.ref R :: QL)) := by rw [upd_ne QR]; exact s2 _ _ (by rw [upd_ne QP]; exact s1 _ _ hQ)
    refine ⟨_, ew, _, _, _, _, rfl, rfl, SqL.of hA2, atI1, _, _, rfl, hQ2, tE_free SB no z3 fun w3 H3 s3 => ⟨_, s3 _ _ hQ2, by simp; omega, ?_⟩⟩
    have kC := st0 (H' := H3) (p := Q) (o := .lst (.ref R :: QL ++ [w3])) (kB.trans s3) nQ
    exact ⟨π, _, G0, T.S.free no (T.sub0.trans kC), PoS.step (Same.refl _) (T.ext kC) k⟩
end
end NV

set_option Elab.async false
set_option linter.all false
set_option maxRecDepth 100000
set_option maxHeartbeats 4000000
/-! Lay23: min(xs, default=None) of pairs of numbers. -/
namespace NV
open PySem PySem.Spec PyProof.Rows L2
open PySem.W (Holds HoldAll Datum DatumOrd minOf holds_pair holds_int min_list_datum_default)
inductive PairsV (K : PySem.W.Frag) (H : Hp) : List V → List (Int × Int) → Prop
  | nil : PairsV K H [] []
  | cons {t : Addr} {vs : List V} {p : Int × Int} {ps : List (Int × Int)} : SqT K H t [.int p.1, .int p.2] → PairsV K H vs ps → PairsV K H (.ref t :: vs) (p :: ps)
theorem PairsV.get {K : PySem.W.Frag} {H : Hp} : ∀ {vs : List V} {ps : List (Int × Int)} {i : Nat} {v : V}, PairsV K H vs ps → vs[i]? = some v → ∃ t p, v = .ref t ∧ ps[i]? = some p ∧ SqT K H t [.int p.1, .int p.2]
  | _, _, _, _, .nil, e => by simp at e
  | _, _, 0, _, .cons h _, e => by simp at e; subst e; exact ⟨_, _, rfl, rfl, h⟩
  | _, _, i + 1, _, .cons _ r, e => by
    obtain ⟨t, p, e1, e2, e3⟩ := PairsV.get (i := i) r (by simpa using e)
    exact ⟨t, p, e1, by simpa using e2, e3⟩
theorem pairs_of {K : PySem.W.Frag} {G H : Hp} (s : Same G H) : ∀ {ds : List D} {vs : List V} {ps : List (Int × Int)}, Reps K G vs ds → pairsD ds = some ps → PairsV K H vs ps
  | [], _, _, h, e => by
    cases h
    obtain rfl := Option.some.inj e
    exact .nil
  | d :: ds, _, ps, h, e => by
    cases h with
    | cons h1 h2 =>
      unfold pairsD at e
      split at e
      · rename_i e0; cases e0
      · rename_i a b r e0
        injection e0 with e1 e2
        subst e1
        subst e2
        cases z : pairsD ds with
        | none => rw [z] at e; cases e
        | some qs =>
          rw [z] at e
          obtain rfl := Option.some.inj e
          cases h1 with
          | tup t1 t2 =>
            cases t2 with
            | cons r1 t3 =>
              cases t3 with
              | cons r2 t4 =>
                cases t4
                obtain rfl := r1.int_iff
                obtain rfl := r2.int_iff
                exact .cons (Same.tupS s t1) (pairs_of s h2 z)
      · cases e
theorem pairsD_get : ∀ {ds : List D} {ps : List (Int × Int)} {i : Nat} {d : D} {p : Int × Int}, pairsD ds = some ps → ds[i]? = some d → ps[i]? = some p → d = .tup [.int p.1, .int p.2]
  | [], _, _, _, _, _, e, _ => by simp at e
  | x :: ds, ps, i, d, p, z, e, g => by
    unfold pairsD at z
    split at z
    · rename_i e0; cases e0
    · rename_i a b r e0
      injection e0 with e1 e2
      subst e1
      subst e2
      cases y : pairsD ds with
      | none => rw [y] at z; cases z
      | some qs =>
        rw [y] at z
        obtain rfl := Option.some.inj z
        cases i with
        | zero =>
          simp at e g
          subst e
          subst g
          rfl
        | succ i => exact pairsD_get (i := i) y (by simpa using e) (by simpa using g)
    · cases z
def rMinN (K : PySem.W.Frag) : List V → List V → Hp → VK → Prop := fun vs zs H Q => ∃ (a : Addr) (xs : List V) (ps : List (Int × Int)), vs = [V.ref a] ∧ zs = [.non] ∧ SqL K H a xs ∧ PairsV K H xs ps ∧ (ps = [] → Q .non H) ∧
  ∀ (p : Int × Int) (r : List (Int × Int)) (i : Nat) (t : Addr), ps = p :: r → xs[i]? = some (.ref t) → ps[i]? = some (minP p r) → Q (.ref t) H
section
variable {X : Cx}
theorem minP_eq (p : Int × Int) (r : List (Int × Int)) : minOf p r = minP p r := rfl
theorem hold_pair {pins : List (Addr × Obj)} {σ : St} {H : Hp} {s : Shared} {t : Addr} {p : Int × Int} (I : Inv X pins σ H s) (h : SqT X.K H t [.int p.1, .int p.2]) : Holds s.heap (.ref t) p := by
  obtain ⟨its, r, ⟨o, ho, hc, n, hd⟩, _⟩ := I.tuple h
  cases r with
  | cons r1 r =>
    cases r with
    | cons r2 r =>
      cases r
      obtain ⟨t1, rfl⟩ := r1
      obtain ⟨t2, rfl⟩ := r2
      exact holds_pair (x := p.1) (y := p.2) ⟨o, ho, hc, n, hd⟩ (holds_int _ _) (holds_int _ _)
theorem hold_all {pins : List (Addr × Obj)} {σ : St} {H : Hp} {s : Shared} (I : Inv X pins σ H s) : ∀ {xs : List V} {ps : List (Int × Int)} {its : List Value}, PairsV X.K H xs ps → Vals xs its → HoldAll s.heap its ps
  | _, _, _, .nil, r => by cases r; exact HoldAll.nil
  | _, _, _, .cons h hr, r => by
    cases r with
    | cons r1 r2 =>
      obtain rfl := r1
      exact HoldAll.cons (hold_pair I h) (hold_all I hr r2)
theorem Vals.getV : ∀ {xs : List V} {us : List Value} {i : Nat} {u : Value}, Vals xs us → us[i]? = some u → ∃ x, xs[i]? = some x ∧ RelV x u
  | _, _, _, _, .nil, e => by simp at e
  | _, _, 0, _, .cons r _, e => by simp at e; subst e; exact ⟨_, rfl, r⟩
  | _, _, i + 1, _, .cons _ r, e => by
    obtain ⟨x, e1, e2⟩ := Vals.getV (i := i) r (by simpa using e)
    exact ⟨x, by simpa using e1, e2⟩
theorem cr_minN (hc : X.calm = true) (hu : X.A.units + 64 < cLine) : CallRK X (.builtin "min") [Str.ofString "default"] (rMinN X.K) := by
  intro pins s σ H vs zs us ws Q I r rz h
  obtain ⟨a, xs, ps, rfl, rfl, hs, hp, q0, q1⟩ := h
  obtain rfl := Vals.ref1 r
  obtain ⟨w1, rfl, e1⟩ := vals1 rz
  obtain rfl : w1 = Value.none := e1
  obtain ⟨its, rv, hl, hz⟩ := I.list hs
  have A := hold_all I hp rv
  refine min_list_datum_default (α := Int × Int) (xs := ps) (I.ok.hd hc) hl.isList (by simpa using A) ?_ (fun e h' tk k => ?_) fun p r i v h' tk e hi hv k => ?_
  · have : Datum.depth (Int × Int) ≤ 32 := by decide
    omega
  · exact ⟨.non, H, I.kept k, rfl, q0 e⟩
  · obtain ⟨x, hx, rx⟩ := Vals.getV (i := i) rv (by simpa using hi)
    obtain ⟨t, p2, rfl, e2, e3⟩ := hp.get hx
    obtain rfl : v = Value.ref t := rx
    have h1 := (hold_pair I e3).keeps k
    obtain ⟨as1, g1⟩ := h1
    obtain ⟨as2, g2⟩ := hv
    have g3 := (g1.unique _ _ g2).1
    have g4 : p2 = minOf p r := by
      have : PyData.tuple [.int p2.1, .int p2.2] = PyData.tuple [.int (minOf p r).1, .int (minOf p r).2] := g3
      injection this with this
      injection this with a1 a2
      injection a2 with a2 _
      injection a1 with a1
      injection a2 with a2
      exact Prod.ext a1 a2
    exact ⟨.ref t, H, I.kept k, rfl, q1 p r i t e hx (by rw [e2, g4]; rfl)⟩
variable {c : Lv} {a : Expr} {f : Ev} {pos p kp np : Pos} {kn : Nat}
theorem re_minN (hc : X.calm = true) (hu : X.A.units + 64 < cLine) (hg : Gl X "min") (hm : X.mg "min" = none) (ha : PE X a (tE X.K c f))
    (hall : (backToKw pos (keywordEach [⟨some "default", .Constant .none kn np, kp⟩] X.env)).all (·.1.isSome) = true := by rfl) (hnone : (backToKw pos (keywordEach [⟨some "default", .Constant .none kn np, kp⟩] X.env)).any (·.1.isNone) = false := by rfl) (hks : (backToKw pos (keywordEach [⟨some "default", .Constant .none kn np, kp⟩] X.env)).filterMap (·.1) = [Str.ofString "default"] := by rfl)
    (hs : starEach [a] X.env = (false, eval a X.env) :: starEach [] X.env := by rfl) (he : backTo pos (starEach (a :: []) X.env) = (false, eval a X.env) :: backTo pos (starEach [] X.env) := by rfl) (hpl : (backTo pos (starEach (a :: []) X.env)).any (·.1) = false := by rfl) :
    PE X (.Call (.Name "min" p) [a] [⟨some "default", .Constant .none kn np, kp⟩] pos) (tE X.K c (e1 opMinN f)) :=
  PE_imp (pe_callBK (cr_minN hc hu) hg hm rfl (pa_cons ha pa_nil hs) (pk_cons pe_non pk_nil) (by decide) (by decide) he hpl hall hnone hks) fun σ H Q q => by
    obtain ⟨π, ρ, G, S, k⟩ := q
    refine ⟨π, ρ, G, S, (Po.bind k).mono fun d1 ρ1 G1 H1 _ _ S1 k1 w1 r1 => ?_⟩
    cases r1 with
    | lst h1 h2 =>
      unfold opMinN at k1
      simp only at k1
      cases z : pairsD _ with
      | none => rw [z] at k1; exact False.elim k1
      | some ps =>
        rw [z] at k1
        refine ⟨_, _, ps, rfl, rfl, SqL.of (S1.sub _ _ h1), pairs_of S1.sub h2 z, fun e => ?_, fun p r i t e ht hm' => ?_⟩
        · subst e
          exact k1.now S1 _ .non
        · subst e
          obtain ⟨d, hd, rd⟩ := h2.getV ht
          have ed := pairsD_get z hd hm'
          subst ed
          exact k1.now S1 _ rd
    | _ => exact False.elim k1
end
end NV

set_option Elab.async false
set_option linter.all false
set_option maxRecDepth 100000
set_option maxHeartbeats 4000000
/-! Lay24: an exception that is kept behind the suite. -/
namespace L2
open PySem PySem.Spec PyProof.Rows
def wKeep (K : PySem.W.Frag) (c : Value) (i j : Nat) (Wout : WX) (D : Ends) : WX := fun cls d σ H =>
  ∃ b, PySem.W.exmOne K cls c = some b ∧ (b = true → ∀ a, H a = none → D.nx (((σ.set i (some (.ref a))).set j (some (.ref a))).set i none) (upd H a (NV.exv cls d a))) ∧ (b = false → Wout cls d σ H)
/-- an exception's object that is known by a pin is tracked -/
theorem Inv.hold {X : Cx} {pins : List (Addr × Obj)} {σ : St} {H : Hp} {s : Shared} {a : Addr} {oe : Obj} {cls : Value} {d : Option Addr} {vs : Array Value} (I : Inv X pins σ H s) (ha : s.heap.get? a = some oe) (na : H a = none) (nL : a ≠ X.env.locals) (hz : Zc cls d oe) (hd : oe.data = .fields vs)
    (hp : ∀ p ∈ X.pn ++ pins, p.1 ≠ a) (hb : ∀ o, a ∉ X.ex → X.s_0.heap.get? a ≠ some o) : Inv X pins σ (upd H a (NV.exv cls d a)) s := by
  have ne : ∀ {b : Addr} {o : HO}, H b = some o → b ≠ a := fun e z => by rw [z, na] at e; cases e
  refine ⟨I.ok, I.os, I.bare, ⟨I.base.keep, I.base.slot, fun b o e n hx => ?_, I.base.there, fun b xs e => ?_, fun b o u e => ?_, fun b ps e => ?_⟩, I.loc, I.cell, ?_, fun x c e => ?_, fun p hpp => ?_, fun b ob e => ?_, I.len⟩
  · by_cases z : b = a
    · subst z
      exact absurd e (hb o hx)
    · rw [upd_ne z]; exact I.base.free b o e n hx
  · have := I.base.tups b xs e
    rw [upd_ne (ne this)]; exact this
  · have := I.base.frzs b o u e
    rw [upd_ne (ne this)]; exact this
  · obtain ⟨more, this⟩ := I.base.tbls b ps e
    exact ⟨more, by rw [upd_ne (ne this)]; exact this⟩
  · rw [upd_ne (Ne.symm nL)]; exact I.free
  · by_cases z : c = a
    · subst z
      obtain ⟨v, o, e1, e2⟩ := I.cell x c e
      rw [ha] at e1
      obtain rfl := Option.some.inj e1
      rw [hd] at e2
      cases e2
    · rw [upd_ne z]; exact I.freeC x c e
  · obtain ⟨e, n, n1, n2, n3⟩ := I.pin p hpp
    exact ⟨e, by rw [upd_ne (hp p hpp)]; exact n, n1, n2, n3⟩
  · by_cases z : b = a
    · subst z
      rw [upd_same] at e
      obtain rfl := Option.some.inj e
      exact ⟨⟨oe, vs, ha, hz, hd⟩, ⟨oe, ha⟩, fun h1 h2 ⟨o, v, q1, q2, q3⟩ k => ⟨o, v, k _ q1, q2, q3⟩⟩
    · rw [upd_ne z] at e
      exact (I.hok b ob e).stay (fun _ _ _ q => q) (fun c q => by rw [upd_ne (ne q)]; exact q) fun c xs q => by rw [upd_ne (ne q)]; exact q
section
variable {X : Cx} {x n y : Str} {c : Value} {i j : Nat} {body : List Stmt} {np pos pos' p1 p2 p3 : Pos} {tb : WX → TS} {Wout : WX}
theorem ps_try_keep (hs : X.stack = X.env :: X.outer) (hf : X.env.frame = some X.env.locals) (hN : X.N.Nodup) (hi : X.N[i]? = some n) (hj : X.N[j]? = some y) (hij : i ≠ j) (hln : X.env.kindOf n = some .local) (hlv : X.env.scope.names.lookup n = some .local) (hly : Loc X.env.scope y) (hc : Names X x c) (tk : Takes X Wout)
    (hb : ∀ (W : WX) (pn : List (Addr × Obj)) (xe : Value → Shared → Prop), Takes (X.tr pn xe) W → PassesOwn (model X.prog X.w) X.A X.env xe → PSs (X.tr pn xe) body (tb W))
    (hsw : swapsWith (.Name n p2) (some (.Name y p1)) p3.line X.env = pure false := by rfl) (hfy : X.env.scope.names.lookup y = some .local := by rfl) (hd : (n == ("__debug__" : Str)) = false := by decide) (hcd : (n == ("__classdict__" : Str)) = false := by decide) :
    PS X (.Try body [.ExceptHandler (some (.Name x np)) (some n) [.Assign [.Name y p1] (.Name n p2) p3] pos'] [] [] pos) (fun D σ H => tb (wKeep X.K c i j Wout D) D σ H) := by
  refine ⟨fun pins s σ H D I h => ?_⟩
  have ok := I.ok
  have hfr : X.A.frames = some (X.env :: X.outer) := by rw [ok.frames, hs]
  have hloc : Loc X.env.scope n := .inl hln
  refine wpAny_Try_except ?_
  refine wpAny_mono ((hb (wKeep X.K c i j Wout D) (X.pn ++ pins) (fun e s₁ => wpAny (model X.prog X.w) X.A (noteFrame e X.env) (fun _ s₂ => wpAny (model X.prog X.w) X.A (setFlight e none) (fun _ s₃ =>
    wpAny (model X.prog X.w) X.A (handleBy e X.env [.ExceptHandler (some (.Name x np)) (some n) [.Assign [.Name y p1] (.Name n p2) p3] pos']) (SP X pins D) X.xe s₃) X.xe s₂) X.xe s₁) (fun u s' xx => ?_) PassesOwn.looking).run [] s σ H D (I.toTry _) h) (fun f s1 hsp => ?_) (fun e s1 he => he)
  · -- the catch
    obtain ⟨a, B, sI, pins', σ', H', cls, d, rfl, J', nb, up, sky, na, os, ag, b, hb1, hyes, hno⟩ := xx
    have J : Inv X pins σ' H' sI := J'.ofTry ok
    have sky' : Sky B (X.env :: X.outer) a (Zc cls d) X.env.locals s'.heap := by rw [← hs]; exact sky
    show wpAny (model X.prog X.w) X.A (noteFrame (.ref a) X.env) _ _ _
    refine Sky.land Zc.steady hfr hf sky' fun h3 fl3 up3 => ?_
    have J3 : Inv X pins σ' H' { s' with heap := h3 } := J.landed nb fl3.1 (up.trans up3) os ag
    obtain ⟨oe3, vs3, he3, hz3, hd3⟩ := fl3.there
    have notFr : ∀ {h : Heap} {o : Obj} {vs : Array Value}, h.FunFrames B (X.env :: X.outer) → h.get? a = some o → o.data = .fields vs → a ∉ frs (X.env :: X.outer) := fun {h o vs} ff e dd hm => by
      obtain ⟨_, o', e', hnf⟩ := ff.mem hm
      rw [e] at e'; cases e'
      exact hnf _ dd
    have nfr := notFr fl3.2.2.1 he3 hd3
    have nL : a ≠ X.env.locals := fun z => nfr (List.mem_filterMap.mpr ⟨X.env, List.mem_cons_self, by rw [hf, z]⟩)
    have nF : a ∉ X.fs := fun hm => by
      obtain ⟨e, he, q⟩ := List.mem_filterMap.mp hm
      exact nfr (List.mem_filterMap.mpr ⟨e, List.mem_cons_of_mem _ he, q⟩)
    have S3 := J3.suite he3 hd3 na nL nF
    have aI : sI.heap.get? a = none := by
      cases e : sI.heap.get? a with
      | none => rfl
      | some o =>
        have := nb a o e (by rw [hs]; exact nfr)
        rw [fl3.2.1] at this; cases this
    have aP : ∀ p ∈ X.pn ++ pins, p.1 ≠ a := fun p hp z => by
      have := (J.pin p hp).1
      rw [z, aI] at this; cases this
    have aB : ∀ o, a ∉ X.ex → X.s_0.heap.get? a ≠ some o := fun o hx e => by
      obtain ⟨o', q⟩ := J.base.there a o e hx
      rw [aI] at q; cases q
    refine wpAny_handleBy_cons (codeAny_handlers_test ?_) (by intro q; cases q)
    have LT : PySem.W.Looks (model X.prog X.w) h3 (typeOf (.ref a)) cls := fun A Q E s k q => wpAny_typeOf_ref (k _ _ he3) (by rw [hz3.1]; exact q)
    have LM := PySem.W.exm_one (M := model X.prog X.w) (J3.kIn) LT hb1
    have test : ∀ {Q : Value → Shared → Prop} {E : Value → Shared → Prop}, Q c { s' with heap := h3 } → wpAny (model X.prog X.w) (X.A.mark (some (.ref a))) (eval (.Name x np) X.env) Q E { s' with heap := h3 } := fun {Q E} q => by
      obtain ⟨hg, hdbg, hm | ⟨hm, hv, hnn⟩⟩ := hc
      · exact ld_glob (X := X.suite a ((a, oe3) :: (X.pn ++ pins))) S3 hg hm q hdbg
      · exact ld_blt (X := X.suite a ((a, oe3) :: (X.pn ++ pins))) S3 hg hm hv q hnn hdbg
    refine test (LM.here ?_)
    cases b with
    | true =>
      refine codeAny_handlers_suite_as ?_
      refine HandSPX.lands_againZ fl3 fun h4 fl4 up4 => ?_
      have J4 : Inv X pins σ' H' { s' with heap := h4 } := J.landed nb fl4.1 ((up.trans up3).trans up4) os ag
      obtain ⟨oe4, vs4, he4, hz4, hd4⟩ := fl4.there
      have S4 := J4.suite he4 hd4 na nL nF
      refine store_ok (X := X.suite a ((a, oe4) :: (X.pn ++ pins))) (v := .ref a) S4 hN hi hloc rfl (fun s5 S5 => ?_) (.inr hln)
      have hlen : i < σ'.length := by
        rw [J.len]
        exact (List.getElem?_eq_some_iff.mp hi).1
      have suiteP : PSs (X.suite a ((a, oe4) :: (X.pn ++ pins))) [.Assign [.Name y p1] (.Name n p2) p3] (tAsg (tVar i) (gName j)) :=
        pss_one (ps_set (X := X.suite a ((a, oe4) :: (X.pn ++ pins))) hN hj hly (pe_var (X := X.suite a ((a, oe4) :: (X.pn ++ pins))) hi (.inl hlv) hd hcd) hsw (.inr hfy))
      refine wpAny_mono (suiteP.run [] s5 _ H' { nx := fun σ6 H6 => σ6 = (σ'.set i (some (.ref a))).set j (some (.ref a)) ∧ H6 = H', rt := fun _ _ => False } S5 ⟨.ref a, List.getElem?_set_self hlen, rfl, rfl⟩) (fun f s6 hsp => ?_) (fun _ _ z => False.elim z)
      cases f with
      | next =>
        obtain ⟨σ6, H6, S6, rfl, rfl⟩ := hsp
        have pin6 := S6.pin (a, oe4) (List.mem_append_left _ List.mem_cons_self)
        have T6 : Inv X pins _ _ s6 := S6.unsuite ok
        have T7 := T6.hold pin6.1 na nL hz4 hd4 aP aB
        exact gone_ok T7 hN hi hln fun s7 J7 => ⟨_, _, J7, hyes rfl a na⟩
      | brk =>
        obtain ⟨σ6, H6, S6, q6⟩ := hsp
        exact False.elim q6
      | cont =>
        obtain ⟨σ6, H6, S6, q6⟩ := hsp
        exact False.elim q6
      | ret u =>
        obtain ⟨v6, σ6, H6, S6, r6, q6⟩ := hsp
        exact False.elim q6
    | false =>
      show wpAny _ X.A (handleBy (.ref a) X.env []) _ _ _
      refine wpAny_handleBy_nil ?_
      obtain ⟨k1, k2, k3, oe, vs, T, oT, ts', he, hz, hd, h1, hr⟩ := id fl3
      unfold PySem.passOn
      refine wpAny_bind (wpAny_field he hd h1 ?_)
      rw [if_neg (show ¬ ((Value.ref T == Value.none) = true) from by simp)]
      have fin : wpAny (model X.prog X.w) X.A (setFlight (.ref a) X.env.frame) (fun _ s4 => wpAny (model X.prog X.w) X.A (throw (.ref a) : Sem Flow) (SP X pins D) X.xe s4) X.xe { s' with heap := h3 } := by
        rw [hf]
        refine HandSPX.setFlight_upZ fl3 fun h4 hh4 up4 => wpAny_throw (tk _ _ ?_)
        exact ⟨a, B, sI, pins, σ', H', cls, d, rfl, J, nb, (up.trans up3).trans up4, .inr (.inr (by rw [hs]; exact hh4)), na, os, ag, hno rfl⟩
      first
        | exact wpAny_bind (wpAny_pure (wpAny_bind fin))
        | exact wpAny_bind fin
  · cases f with
    | next =>
      obtain ⟨σ', H', J', q⟩ := hsp
      exact wpAny_execs_nil ⟨σ', H', J'.ofTry ok, q⟩
    | brk =>
      obtain ⟨σ', H', J', q⟩ := hsp
      exact ⟨σ', H', J'.ofTry ok, q⟩
    | cont =>
      obtain ⟨σ', H', J', q⟩ := hsp
      exact ⟨σ', H', J'.ofTry ok, q⟩
    | ret u =>
      obtain ⟨v, σ', H', J', r, q⟩ := hsp
      exact ⟨v, σ', H', J'.ofTry ok, r, q⟩
end
end L2

set_option Elab.async false
set_option linter.all false
set_option maxRecDepth 100000
set_option maxHeartbeats 4000000
/-! Lay25: try and raise. -/
namespace NV
open PySem PySem.Spec PyProof.Rows L2
/-- how an exception lies -/
def ZX (K : PySem.W.Frag) (ks : List Nat) : Exn → Value → Option Addr → Hp → Prop := fun x cls d G => x.k ∈ ks ∧ ∃ (C : Addr) (vs : List V), cls = .ref C ∧ ExcAt K x.k C ∧ ExF G d vs ∧ Reps K G vs x.m
section
variable {K : PySem.W.Frag} {π : Nat → Addr} {ρ ρ0 : Env} {G G0 Gx G' : Hp} {σ σ0 : St} {H H0 H' : Hp} {c : Lv} {i : Nat} {d : D}
theorem SE.un (S : SE K π ρ G σ H) (i : Nat) (o : Option V) : SE K π (ρ.set i .un) G (σ.set i o) H ∧ Ext ρ σ G H (ρ.set i .un) (σ.set i o) G H := by
  have off : ∀ {j : Nat} {t : Sl}, (ρ.set i .un)[j]? = some t → t.owned = true → j ≠ i ∧ ρ[j]? = some t := fun {j t} h1 o1 => by
    rcases getset h1 with ⟨_, _, rfl⟩ | ⟨ne, h⟩
    · cases o1
    · exact ⟨ne, h⟩
  refine ⟨⟨S.sub, by rw [List.length_set, List.length_set]; exact S.len, fun j t h => ?_, fun j k b s t h1 h2 o1 o2 q1 q2 => ?_⟩, fun b ob h n => ⟨h, fun ⟨j, t, h1, o1, h2⟩ => ?_, fun z => z⟩⟩
  · rcases getset h with ⟨_, _, rfl⟩ | ⟨ne, h⟩
    · trivial
    · rw [List.getElem?_set_ne (Ne.symm ne)]; exact S.ok j t h
  · obtain ⟨n1, h1⟩ := off h1 o1
    obtain ⟨n2, h2⟩ := off h2 o2
    rw [List.getElem?_set_ne (Ne.symm n1)] at q1
    rw [List.getElem?_set_ne (Ne.symm n2)] at q2
    exact S.inj j k b s t h1 h2 o1 o2 q1 q2
  · obtain ⟨n1, h1⟩ := off h1 o1
    rw [List.getElem?_set_ne (Ne.symm n1)] at h2
    exact n ⟨j, t, h1, o1, h2⟩
end
section
variable {X : Cx} {ks : List Nat} {x n y : Str} {cv : Value} {body : List Stmt} {np pos pos' p1 p2 p3 : Pos} {W : WX} {B : Es}
theorem rs_try (i j : Nat) (hs : X.stack = X.env :: X.outer) (hf : X.env.frame = some X.env.locals) (hN : X.N.Nodup) (hi : X.N[i]? = some n) (hj : X.N[j]? = some y) (hij : i ≠ j) (hln : X.env.kindOf n = some .local) (hlv : X.env.scope.names.lookup n = some .local) (hly : Loc X.env.scope y) (hc : Names X x cv) (tk : Takes X W)
    (hex : ∀ k ∈ ks, ∀ C, ExcAt X.K k C → PySem.W.exmOne X.K (.ref C) cv = some true)
    (hb : ∀ (W : WX) (pn : List (Addr × Obj)) (xe : Value → Shared → Prop), Takes (X.tr pn xe) W → PassesOwn (model X.prog X.w) X.A X.env xe → PSs (X.tr pn xe) body (tS X.K ⟨ZX X.K ks, W⟩ B))
    (hsw : swapsWith (.Name n p2) (some (.Name y p1)) p3.line X.env = pure false := by rfl) (hfy : X.env.scope.names.lookup y = some .local := by rfl) (hd : (n == ("__debug__" : Str)) = false := by decide) (hcd : (n == ("__classdict__" : Str)) = false := by decide) :
    PS X (.Try body [.ExceptHandler (some (.Name x np)) (some n) [.Assign [.Name y p1] (.Name n p2) p3] pos'] [] [] pos) (tS X.K ⟨ZX X.K ks, W⟩ (sTryK i j B)) :=
  PS_imp (ps_try_keep (tb := fun W => tS X.K ⟨ZX X.K ks, W⟩ B) hs hf hN hi hj hij hln hlv hly hc tk hb hsw hfy hd hcd) fun D σ H q => by
    obtain ⟨π, ρ, G, S, k⟩ := q
    refine ⟨π, ρ, G, S, ?_⟩
    unfold sTryK at k
    cases z : B ρ with
    | st => rw [z] at k; exact k
    | ok fl ρ' =>
      rw [z] at k
      cases fl with
      | nx => exact k
      | brk => exact k
      | cnt => exact k
      | ret r => exact k
    | rz xx ρ' =>
      rw [z] at k
      intro cls d σ' G' H' s' e' S' hz
      obtain ⟨hk, C, vs, rfl, hC, hf2, hr⟩ := hz
      refine ⟨true, hex _ hk _ hC, fun _ a na => ?_, fun q => Bool.noConfusion q⟩
      have g := Grow.tr (o := exv (.ref C) d a) S'.sub na
      obtain ⟨S1, e1⟩ := S'.grow g
      obtain ⟨S2, e2⟩ := S1.un i (some (.ref a))
      have rep : Rep X.K (upd G' a (exv (.ref C) d a)) (.ref a) (.exc xx.k xx.m) := .exc hC upd_same (hf2.mono g.g) (Reps.mono g.g _ _ hr)
      obtain ⟨S3, e3⟩ := S2.set rep j
      obtain ⟨S4, e4⟩ := S3.un i none
      exact k _ _ _ (s'.trans g.g) (((e'.trans e1).trans e2).trans (e3.trans e4)) S4
end
/-! ### raise -/
/-- what __init__ of the own class with the field 'most' does -/
def spI (C : Addr) : Sp := fun vs H Q _ => ∃ (a : Addr) (v : V), vs = [.ref a, v] ∧ H a = some (exo a C none) ∧ ∀ dx, H dx = none → dx ≠ a → Q .non (upd (upd H dx (exd dx [(("most" : Str), v)])) a (exo a C (some dx)))
section
variable {X : Cx} {ks : List Nat} {x : Str} {p pos pos2 : Pos} {W : WX} {e : Expr} {f : Ev}
theorem rs_raise1 {CX : CXT} {C fI : Addr} {fd : FuncData} (k : Nat) {k0 : Nat} (hc : X.calm = true) (tk : Takes X W) (hk : k ∈ ks) (hC : ExcAt X.K k C) (T : OexC X.K C) (iC : PySem.W.findIn X.K (.ref C) "__init__" = some (some (.ref fI))) (tI : PySem.W.typeIn X.K (.ref fI) = some (.type "function"))
    (F1 : FnOk X.prog X.w X.K X.mg X.base CX k0 fI fd ["self", "most"] (spI C)) (hr : Room (k0 + 1) X.A) (hb : Binds X.K fd ["self", "most"] []) (hx : Passes CX X (fun _ _ _ => False)) (hg : Gl X x) (hm : X.mg x = some (.ref C)) (ha : PE X e (tE X.K ⟨ZX X.K ks, W⟩ f))
    (hdb : (x == ("__debug__" : Str)) = false := by decide) (he : starEach [e] X.env = (false, eval e X.env) :: starEach [] X.env := by rfl) (hpl : (backTo pos (starEach [] X.env)).any (·.1) = false := by rfl) :
    PS X (.Raise (some (.Call (.Name x p) [e] [] pos)) none pos2) (tS X.K ⟨ZX X.K ks, W⟩ (sRaise k (aCons f aNil))) :=
  PS_imp (ps_raise hc tk (pmk_oex (ds := []) (dvs := []) T iC tI F1 hr hb .nil hx hg hm (pa_cons ha pa_nil he) hdb he hpl)) fun D σ H q => by
    obtain ⟨π, ρ, G, S, k⟩ := q
    unfold sRaise aCons at k
    rw [Res.bind_bind] at k
    refine ⟨π, ρ, G, S, (PoS.bind k).mono fun d1 ρ1 G1 H1 s1 e1 S1 k1 w1 r1 => ?_⟩
    refine ⟨by simp, fun a na => ⟨a, w1, rfl, upd_same, fun dx ndx hne => ?_⟩⟩
    rw [upd_ne hne] at ndx
    refine ⟨rfl, dx, [(("most" : Str), w1)], upd_same, by rw [upd_ne hne, upd_same], ndx, ?_⟩
    have eH : upd (del (upd (upd (upd H1 a (exo a C none)) dx (exd dx [(("most" : Str), w1)])) a (exo a C (some dx))) a) dx (.xd [(("most" : Str), w1)]) = upd H1 dx (.xd [(("most" : Str), w1)]) := by
      funext b
      by_cases hb : b = dx
      · subst hb; rw [upd_same, upd_same]
      · rw [upd_ne hb, upd_ne hb]
        by_cases hba : b = a
        · subst hba; rw [del_same, na]
        · rw [del_ne hba, upd_ne hba, upd_ne hb, upd_ne hba]
    rw [eH]
    have g := Grow.tr (o := .xd [(("most" : Str), w1)]) S1.sub ndx
    obtain ⟨S2, e2⟩ := S1.grow g
    exact k1 _ _ σ _ _ g.g e2 S2 ⟨hk, C, [w1], rfl, hC, (.inr ⟨w1, dx, rfl, rfl, upd_same⟩), .cons (r1.mono g.g _) .nil⟩
end
end NV

set_option Elab.async false
set_option linter.all false
set_option maxRecDepth 100000
set_option maxHeartbeats 4000000
/-! Lay26: an own class's __init__; looking at a kept exception. -/
namespace NV
open PySem PySem.Spec PyProof.Rows L2
/-- what the written part says of the class with the field most, and of its base -/
structure TGT (K : PySem.W.Frag) (mg : Str → Option Value) (C Cw fI : Addr) : Prop where
  ox : OexC K C
  iC : PySem.W.findIn K (.ref C) "__init__" = some (some (.ref fI))
  tI : PySem.W.typeIn K (.ref fI) = some (.type "function")
  gC : mg "TooGreat" = some (.ref C)
  gW : mg "WordError" = some (.ref Cw)
  eC : ExcAt K 7 C
  noM : PySem.W.findIn K (.ref C) "most" = some none
  wG : PySem.W.specialIn K (.ref Cw) "__getattribute__" = some (some (.builtin "type.__getattribute__"))
  wR : PySem.W.readsIn K Cw (.type "type") = true
  wI : PySem.W.findCls K (.ref Cw) (.type "type") "__init__" = some (.val (.builtin "ValueError.__init__"))
section
variable {X : Cx} {e : Expr} {es : List Expr} {ta : TA} {p1 p2 pos : Pos} {C Cw fI : Addr}
/-- WordError.__init__(self, ..) -/
theorem pe_ownInit {pl : Sem Bool} (T : TGT X.K X.mg C Cw fI) (hg : Gl X "WordError") (ha : PA X (e :: es) ta)
    (hc : eval (.Call (.Attribute (.Name "WordError" p1) "__init__" p2) (e :: es) [] pos) X.env = (do
      let ov ← eval (.Name "WordError" p1) X.env
      standAt p2.atName
      let (f, first) ← holding [ov] (getMethod ov "__init__" pl)
      callWith pos f first (backTo pos (starEach (e :: es) X.env)) (backToKw pos (keywordEach [] X.env))) := by rfl)
    (he : starEach (e :: es) X.env = (false, eval e X.env) :: starEach es X.env := by rfl) (hpl : (backTo pos (starEach es X.env)).any (·.1) = false := by rfl) :
    PE X (.Call (.Attribute (.Name "WordError" p1) "__init__" p2) (e :: es) [] pos) (tVeI X.K ta) := by
  refine ⟨fun pins s σ H Q I h => ?_⟩
  refine PySem.W.methodCall_KW (ld_glob I hg T.gW ?_) hc
  refine PySem.W.method_cls I.kIn T.wG (PySem.W.cls_value I.kIn T.wR T.wI (by decide +kernel) ?_)
  show wpAny _ _ (callWith pos (Value.builtin "ValueError.__init__") [] (backTo pos (starEach (e :: es) X.env)) []) _ _ _
  refine PyProof.Rows.callWith_method1 (thn (ha.run pos pins _ σ H _ (I.tok _) h) fun us s1 ⟨vs, H1, I1, r1, a, C, ws, ev, hl, T, ea, q⟩ => ?_) he hpl
  subst ev
  cases r1 with
  | @cons _ u0 _ ur ra rw' =>
    obtain rfl : u0 = Value.ref a := ra
    have hlen : ur.length ≤ sizeLine := by
      rw [← Paired.length rw', sizeLine_eq]
      omega
    exact oinit_ok T I1 ea hlen fun s' J => ⟨.non, H1, J, rfl, q⟩
end
/-- __init__'s body -/
def tIni (K : PySem.W.Frag) : TS := tSeq (tDrop (tVeI K (tCons (tVar 0) (tCons (tC (.str "too great")) tNil)))) (tOst K "most" (tVar 0) (tVar 1))
theorem init_ok {P : Program} {w : World} {K : PySem.W.Frag} {mg : Str → Option Value} {base : Heap} {C Cw fI : Addr} {fd : FuncData} {qual : Str} {params : Arguments} {body : List Stmt} {scope : Scope} {dvs : List V} (T : TGT K mg C Cw fI) (F : FunD K "__init__" qual params body scope dvs [] fI fd) (S : FnScope ["self", "most"] ["self", "most"] scope)
    (hb : ∀ (cdv : Value) (A : Around) (outer : List PySem.Env) (s : Shared) (H : Hp) (E : XK), Room 0 (A.deeper (envOfC qual scope s.heap.objs.size fI cdv)) → PSs (cxOf (L2.CX P w) P w K mg base ["self", "most"] qual scope fI cdv A outer s H E) body (tIni K)) :
    FnOk P w K mg base (L2.CX P w) 1 fI fd ["self", "most"] (spI C) := by
  refine F.ok S (fun vs H Q E h => ?_) (fun cdv A outer s H vs Q E hr h => ⟨tIni K, hb cdv A outer s H E hr, ?_⟩)
  · obtain ⟨a, v, rfl, _⟩ := h
    rfl
  · obtain ⟨a, v, rfl, e, k⟩ := h
    exact ⟨.ref a, rfl, a, C, [.str "too great"], rfl, by decide, T.ox, e, v, rfl, .ref a, rfl, a, C, rfl, T.ox, T.noM, .inl ⟨e, fun dx h1 h2 => k dx h1 h2⟩⟩
/-! ### isinstance and the field -/
theorem exc_inst {X : Cx} {pins : List (Addr × Obj)} {σ : St} {H : Hp} {s : Shared} {a C : Addr} {dd : Option Addr} {vs : List V} (I : Inv X pins σ H s) (h : H a = some (exv (.ref C) dd a)) (F : ExF H dd vs) : ∃ oe od, PySem.W.InstAt s.heap a oe C od := by
  obtain ⟨⟨oe, fs, h1, h2, h3⟩, _⟩ := (show ObjOk X.prog X.w H s.heap a (exv (.ref C) dd a) from I.hok a _ h)
  have no : PySem.W.notCls oe = true := by unfold PySem.W.notCls; rw [h3]
  rcases F with ⟨_, rfl⟩ | ⟨v, d, _, rfl, hd⟩
  · exact ⟨oe, none, h1, h2.1, no, by rw [h2.2]; trivial⟩
  · obtain ⟨mA, ⟨o, es, ep, e1, _⟩, _⟩ := (show ObjOk X.prog X.w H s.heap d (.xd _) from I.hok d _ hd)
    exact ⟨oe, some o, h1, h2.1, no, by rw [h2.2]; exact e1⟩
theorem kitx_own {K : PySem.W.Frag} {x C : Addr} {ox : Obj} {od : Option Obj} (c : ExcC K C) : PySem.W.KitX K (.ref x) (.ref C) (fun h => PySem.W.InstAt h x ox C od) :=
  PySem.W.kitx_exc (by obtain ⟨cd, hc, _⟩ := PySem.W.any_some c.hd; rw [hc]; rfl) c.hg c.hk c.hs c.ha c.hn c.ht c.hm
def rIsX (K : PySem.W.Frag) : List V → Hp → VK → Prop := fun xs H Q => ∃ (a C : Addr) (dd : Option Addr) (vs : List V) (c : V) (u : Value) (b : Bool), xs = [.ref a, c] ∧ ClsV c u ∧ H a = some (exv (.ref C) dd a) ∧ ExF H dd vs ∧ ExcC K C ∧ PySem.W.kitOne K (.ref C) u = some b ∧ Q (.bl b) H
def rIsXT (K : PySem.W.Frag) : List V → Hp → VK → Prop := fun xs H Q => ∃ (a C : Addr) (dd : Option Addr) (vs : List V) (tp : Addr) (cs : List V) (us : List Value) (b : Bool), xs = [.ref a, .ref tp] ∧ H tp = some (.tup cs) ∧ Paired ClsV cs us ∧ H a = some (exv (.ref C) dd a) ∧ ExF H dd vs ∧ ExcC K C ∧ PySem.W.kitAny K (.ref C) us = some b ∧ Q (.bl b) H
section
variable {X : Cx}
theorem call_isX : CallR X (.builtin "isinstance") (rIsX X.K) := by
  intro pins s σ H xs us Q I r h
  obtain ⟨a, C, dd, vs, c, u, b, rfl, k, ha, hf, hc, e, q⟩ := h
  obtain ⟨u1, u2, rfl, r1, r2⟩ := vals2 r
  have e2 := k.eq r2
  subst e2
  obtain rfl : u1 = Value.ref a := r1
  obtain ⟨oe, od, J⟩ := exc_inst I ha hf
  exact PySem.W.kia_one (kitx_own hc) I.kIn J e (fun z => nomatch z) fun tk => ⟨.bl b, H, I.tok tk, rfl, q⟩
theorem call_isXT : CallR X (.builtin "isinstance") (rIsXT X.K) := by
  intro pins s σ H xs us Q I r h
  obtain ⟨a, C, dd, vs, tp, cs, ws, b, rfl, hT, k, ha, hf, hc, e, q⟩ := h
  obtain ⟨u1, u2, rfl, r1, r2⟩ := vals2 r
  cases (show u2 = Value.ref tp from r2)
  obtain rfl : u1 = Value.ref a := r1
  obtain ⟨oe, od, J⟩ := exc_inst I ha hf
  obtain ⟨_, its, rv, o, h1, h2, n, h3⟩ := (show ObjOk X.prog X.w H s.heap tp (.tup cs) from I.hok tp _ hT)
  have e3 := ClsV.all k rv
  subst e3
  obtain ⟨oc, od', dt, sl⟩ := o
  simp only at h2 h3
  subst h2 h3
  exact PySem.W.kia_tup (kitx_own hc) I.kIn J h1 e (fun z => nomatch z) fun tk => ⟨.bl b, H, I.tok tk, rfl, q⟩
end
end NV

set_option Elab.async false
set_option linter.all false
set_option maxRecDepth 100000
set_option maxHeartbeats 4000000
/-! Lay27: what is asked of a kept exception. -/
namespace NV
open PySem PySem.Spec PyProof.Rows L2
/-- the class that the number names -/
def clsU (A : Nat → Addr) (n : Nat) : Value := if n = 8 then .type "ValueError" else .ref (A n)
/-- what the written part says of the own classes: ks those that are raised, ns those that are asked for -/
structure XT (K : PySem.W.Frag) (mg : Str → Option Value) (ks ns : List Nat) (A : Nat → Addr) : Prop where
  at' : ∀ k ∈ ks, ExcAt K k (A k)
  exc : ∀ k ∈ ks, ExcC K (A k)
  exm : ∀ k ∈ ks, PySem.W.exmOne K (.ref (A k)) (.ref (A 0)) = some true
  kit : ∀ k ∈ ks, ∀ n ∈ ns, PySem.W.kitOne K (.ref (A k)) (clsU A n) = some (subX k n)
  noM : ∀ k ∈ ks, PySem.W.findIn K (.ref (A k)) "most" = some none
section
variable {X : Cx} {ks ns : List Nat} {A : Nat → Addr} {c : Lv} {e ce ce2 : Expr} {f : Ev} {pos p pt : Pos}
theorem XT.eq {K : PySem.W.Frag} {mg : Str → Option Value} (T : XT K mg ks ns A) {k : Nat} {C : Addr} (hk : k ∈ ks) (h : ExcAt K k C) : C = A k := by
  have := T.at' k hk
  unfold ExcAt at h this
  rw [h] at this
  exact Value.ref.inj (Option.some.inj (Option.some.inj this))
theorem XT.hex {K : PySem.W.Frag} {mg : Str → Option Value} (T : XT K mg ks ns A) : ∀ k ∈ ks, ∀ C, ExcAt K k C → PySem.W.exmOne K (.ref C) (.ref (A 0)) = some true := fun k hk C h => by
  rw [T.eq hk h]; exact T.exm k hk
/-- a class as an expression -/
def ClsE (X : Cx) (e : Expr) (u : Value) : Prop := ∃ cv, PE X e (tC cv) ∧ ClsV cv u
theorem clsE_own {x : Str} (n : Nat) (hn : n < 8) (hg : Gl X x) (hm : X.mg x = some (.ref (A n))) (hd : (x == ("__debug__" : Str)) = false := by decide) : ClsE X (.Name x p) (clsU A n) := by
  unfold clsU
  rw [if_neg (by omega)]
  exact ⟨.ref (A n), pe_glob hg hm rfl hd, .own _⟩
theorem clsE_VE (hg : Gl X "ValueError") (hm : X.mg "ValueError" = none) : ClsE X (.Name "ValueError" p) (clsU A 8) := ⟨.ty "ValueError", pe_bltn hg hm rfl rfl (by decide) (by decide), .ty _⟩
theorem opIsX_of {n : Nat} {d1 d : D} (h : opIsX ks n d1 = some d) : ∃ k m, d1 = .exc k m ∧ k ∈ ks ∧ d = .bl (subX k n) := by
  unfold opIsX at h
  split at h
  · rename_i k m
    split at h
    · rename_i hk
      exact ⟨k, m, rfl, hk, (Option.some.inj h).symm⟩
    · cases h
  · cases h
theorem opIsX2_of {n m' : Nat} {d1 d : D} (h : opIsX2 ks n m' d1 = some d) : ∃ k m, d1 = .exc k m ∧ k ∈ ks ∧ d = .bl (subX k n || subX k m') := by
  unfold opIsX2 at h
  split at h
  · rename_i k m
    split at h
    · rename_i hk
      exact ⟨k, m, rfl, hk, (Option.some.inj h).symm⟩
    · cases h
  · cases h
theorem opMost_of {d1 d : D} (h : opMost ks d1 = some d) : ∃ k, d1 = .exc k [d] ∧ k ∈ ks := by
  unfold opMost at h
  split at h
  · rename_i k m
    split at h
    · rename_i hk
      obtain rfl := Option.some.inj h
      exact ⟨k, rfl, hk⟩
    · cases h
  · cases h
/-- isinstance(e, C) -/
theorem re_isX (T : XT X.K X.mg ks ns A) (n : Nat) (hn : n ∈ ns) (hg : Gl X "isinstance") (hm : X.mg "isinstance" = none) (ha : PE X e (tE X.K c f)) (hc : ClsE X ce (clsU A n))
    (he : starEach [e, ce] X.env = (false, eval e X.env) :: starEach [ce] X.env := by rfl) (he2 : starEach [ce] X.env = (false, eval ce X.env) :: starEach [] X.env := by rfl) (hpl : (backTo pos (starEach [ce] X.env)).any (·.1) = false := by rfl) :
    PE X (.Call (.Name "isinstance" p) [e, ce] [] pos) (tE X.K c (e1 (opIsX ks n) f)) := by
  obtain ⟨cv, hce, hcv⟩ := hc
  refine PE_imp (pe_callB call_isX hg hm rfl (pa_cons ha (pa_cons hce pa_nil he2) he) (by decide) (by decide) he hpl) fun σ H Q q => ?_
  obtain ⟨π, ρ, G, S, k⟩ := q
  refine ⟨π, ρ, G, S, (Po.bind k).mono fun d1 ρ1 G1 H1 s1 e1' S1 k1 w1 r1 => ?_⟩
  obtain ⟨d, hd⟩ := some_of k1
  have fin := fin_of S1 hd k1
  obtain ⟨k, m, rfl, hk, rfl⟩ := opIsX_of hd
  cases r1 with
  | exc h1 h2 h3 h4 =>
    obtain rfl := T.eq hk h1
    exact ⟨_, _, _, _, _, _, _, rfl, hcv, S1.sub _ _ h2, h3.mono S1.sub, T.exc k hk, T.kit k hk n hn, fin.bl S1.sub⟩
/-- isinstance(e, (C1, C2)) -/
theorem re_isX2 {kt : Nat} (T : XT X.K X.mg ks ns A) (n m : Nat) (hn : n ∈ ns) (hm' : m ∈ ns) (hg : Gl X "isinstance") (hm : X.mg "isinstance" = none) (ha : PE X e (tE X.K c f)) (hc : ClsE X ce (clsU A n)) (hc2 : ClsE X ce2 (clsU A m))
    (ht1 : starEach [ce, ce2] X.env = (false, eval ce X.env) :: starEach [ce2] X.env := by rfl) (ht2 : starEach [ce2] X.env = (false, eval ce2 X.env) :: starEach [] X.env := by rfl)
    (he : starEach [e, .Tuple [ce, ce2] kt pt] X.env = (false, eval e X.env) :: starEach [.Tuple [ce, ce2] kt pt] X.env := by rfl) (he2 : starEach [.Tuple [ce, ce2] kt pt] X.env = (false, eval (.Tuple [ce, ce2] kt pt) X.env) :: starEach [] X.env := by rfl) (hpl : (backTo pos (starEach [.Tuple [ce, ce2] kt pt] X.env)).any (·.1) = false := by rfl) :
    PE X (.Call (.Name "isinstance" p) [e, .Tuple [ce, ce2] kt pt] [] pos) (tE X.K c (e1 (opIsX2 ks n m) f)) := by
  obtain ⟨cv, hce, hcv⟩ := hc
  obtain ⟨cv2, hce2, hcv2⟩ := hc2
  refine PE_imp (pe_callB call_isXT hg hm rfl (pa_cons ha (pa_cons (pe_tup (pa_cons hce (pa_cons hce2 pa_nil ht2) ht1)) pa_nil he2) he) (by decide) (by decide) he hpl) fun σ H Q q => ?_
  obtain ⟨π, ρ, G, S, k⟩ := q
  refine ⟨π, ρ, G, S, (Po.bind k).mono fun d1 ρ1 G1 H1 s1 e1' S1 k1 w1 r1 => ?_⟩
  obtain ⟨d, hd⟩ := some_of k1
  have fin := fin_of S1 hd k1
  obtain ⟨k, ms, rfl, hk, rfl⟩ := opIsX2_of hd
  cases r1 with
  | exc h1 h2 h3 h4 =>
    obtain rfl := T.eq hk h1
    refine ⟨by rw [sizeLine_eq]; exact (by decide : 2 ≤ 16777216), fun tp ntp => ?_⟩
    have g := Grow.tr (o := .tup [cv, cv2]) S1.sub ntp
    have ka : PySem.W.kitAny X.K (.ref (A k)) [clsU A n, clsU A m] = some (subX k n || subX k m) := by
      refine kitAny_cons (T.kit k hk n hn) (fun z => ?_) fun z => by rw [z]; rfl
      rw [z, Bool.false_or]
      exact kitAny_cons (T.kit k hk m hm') (fun y => by rw [y]; exact kitAny_nil) fun y => by rw [y]
    exact ⟨_, _, _, _, tp, [cv, cv2], _, _, rfl, upd_same, .cons hcv (.cons hcv2 .nil), g.h _ _ (S1.sub _ _ h2), (h3.mono S1.sub).mono g.h, T.exc k hk, ka, fin (.bl _) _ _ g (.bl _)⟩
/-- e.most -/
theorem re_most (T : XT X.K X.mg ks ns A) (ha : PE X e (tE X.K c f)) (hb : attributeBase e "most" X.env (eval e X.env) = eval e X.env := by rfl) : PE X (.Attribute e "most" pos) (tE X.K c (e1 (opMost ks) f)) := by
  refine ⟨fun pins s σ H Q I h => ?_⟩
  obtain ⟨π, ρ, G, S, k⟩ := h
  refine attr_of hb (thn (ha.run pins s σ H (fun w1 H1 => ∃ π ρ1 G1 d1, SE X.K π ρ1 G1 σ H1 ∧ Rep X.K G1 w1 d1 ∧ Po X.K c π ρ1 G1 σ H1 (out (opMost ks d1) ρ1) (JE X.K Q)) I ⟨π, ρ, G, S, (Po.bind k).mono fun d1 ρ1 G1 H1 s1 e1' S1 k1 w1 r1 => ⟨π, ρ1, G1, d1, S1, r1, k1⟩⟩) fun u s1 hh => ?_)
  obtain ⟨w1, H1, I1, rx, π1, ρ1, G1, d1, S1, r1, k1⟩ := hh
  obtain ⟨d, hd⟩ := some_of k1
  have fin := fin_of S1 hd k1
  obtain ⟨k, rfl, hk⟩ := opMost_of hd
  cases r1 with
  | @exc a C dd _ _ vs h1 h2 h3 h4 =>
    obtain rfl := T.eq hk h1
    have tc := T.exc k hk
    obtain rfl : u = Value.ref a := rx
    obtain ⟨⟨oe, fs, g1, g2, g3⟩, _⟩ := (show ObjOk X.prog X.w H1 s1.heap a (exv (.ref (A k)) dd a) from I1.hok a _ (S1.sub _ _ h2))
    cases h4 with
    | cons r4 r5 =>
      cases r5
      rcases h3 with ⟨z, _⟩ | ⟨v, dx, z, rfl, hx⟩
      · cases z
      · obtain ⟨rfl, _⟩ := List.cons.inj z
        obtain ⟨mA, hns, hr⟩ := (show ObjOk X.prog X.w H1 s1.heap dx (.xd _) from I1.hok dx _ (S1.sub _ _ hx))
        obtain ⟨od, ho, hl⟩ := lookIn_ns hns
        obtain ⟨u, hu, ru⟩ := RelO.some_of (v := _) (o := mA "most") (by simpa [List.lookup] using hr "most")
        have J : PySem.W.InstAt s1.heap a oe (A k) (some od) := ⟨g1, g2.1, by unfold PySem.W.notCls; rw [g3], by rw [g2.2]; exact ho⟩
        exact HandSPX.exc_get I1.kIn J tc.hg tc.hk tc.hs (PySem.W.findObj_own tc.hd (T.noM k hk) rfl (by rw [hl, hu])) (handed_of ru) ⟨_, H1, I1.tok _, ru, fin _ _ _ (Grow.refl S1.sub) r4⟩
end
end NV
namespace NV
open PySem PySem.Spec PyProof.Rows L2
def clsBody (s : Stmt) : List Stmt := match s with
  | .ClassDef _ _ _ b _ _ _ _ _ _ _ => b
  | _ => []
theorem passes_F {X : Cx} : Passes (L2.CX X.prog X.w) X (fun _ _ _ => False) := fun _ _ _ _ _ _ _ h => by
  obtain ⟨_, _, _, _, _, _, _, _, _, _, _, _, z⟩ := h
  exact z.elim
theorem init_binds {K : PySem.W.Frag} {x qual : Str} {params : Arguments} {body : List Stmt} {scope : Scope} {f : Addr} {fd : FuncData} (F : FunD K x qual params body scope [.non] [] f fd)
    (h : ∀ (T : Addr) (kV doc pm : Value) (an : Option Addr) (cdv ct : Value) (us its : List Value), us.length = 2 → its.length = [V.non].length →
      ∃ k, bindArgs (PySem.W.fnOf x qual params body scope (.ref T) kV doc pm an cdv ct) ⟨us, []⟩ = seqItems? (.ref T) >>= k ∧ k (some its.toArray) = pure ((["self", "most"] : List Str).zip (us ++ its.drop 1))) : Binds K fd ["self", "most"] [] := by
  obtain ⟨ds, hv, hb⟩ := F.binds1 (ps := ["self", "most"]) 2 1 (by simp) rfl h
  cases hv
  exact hb
end NV
namespace NV
open PySem PySem.Spec PyProof.Rows L2
/-- a promise with exceptions told -/
def spX (K : PySem.W.Frag) (ks : List Nat) (n : Nat) (s : Df) : Sp := spD K (ZX K ks) n s
theorem law_spX {K : PySem.W.Frag} {ks : List Nat} {s : Df} {H : Hp} {a : Addr} {ns : List Int} {as : Env} (hS : SqL K H a (ns.map V.int)) (h : s [.v (.scr (ns.map D.int))] = .ok (.v (.bl true)) as) :
    spX K ks 1 s [.ref a] H (fun v _ => v = .bl true) fun _ _ _ => False := law_sp (Z := ZX K ks) hS h
end NV

set_option Elab.async false
set_option linter.all false
set_option maxRecDepth 100000
set_option maxHeartbeats 4000000
/-! Lay28: raise of a class without own __init__. -/
namespace L2
open PySem PySem.Spec PyProof.Rows
/-- X(), X an own exception class without own __init__ -/
theorem pmk_own0 {X : Cx} {pos : Pos} {C : Addr} {bmB : List Value} {B newId initId : String} {x : Str} {p : Pos} (F : ExcBaseFacts B newId initId bmB) (q : PySem.W.excIn X.K C bmB newId = true) (gC : X.mg x = some (.ref C))
    (kC : PySem.W.keepIn X.K (.ref C) = true) (r : Raises X (.ref C)) (hg : Gl X x) (hdb : (x == ("__debug__" : Str)) = false := by decide) :
    PMk X (.Call (.Name x p) [] [] pos) (fun σ H Q => Q (.ref C) none H) := by
  intro pins s σ H Q I h
  refine wpAny_Call_Name_kw (ld_glob I hg gC ?_ hdb)
  refine PySem.W.callWith_K0 I.kIn kC ?_
  show wpAny _ _ (call (.ref C) []) _ _ _
  obtain ⟨bm, N, nm, qn, bs, hdct, sn, sub, ab, col, dd, k0, k1, k2, k3, k5, mN, hC, hN, hni, T⟩ := exc_obj I.kIn q
  refine wpAny_call_exc_subT F T hC hN hni (fun h' e hm => ?_) (Nat.zero_le _)
  exact mk_of I hm r h (I.hok.gone hm.new)
end L2
namespace NV
open PySem PySem.Spec PyProof.Rows L2
abbrev veBs : List Value := [.type "ValueError", .type "Exception", .type "BaseException", .type "object"]
/-- what the written part says of such a class -/
structure X0 (K : PySem.W.Frag) (C : Addr) : Prop where
  q : PySem.W.excIn K C veBs "ValueError.__new__" = true
  kC : PySem.W.keepIn K (.ref C) = true
  exC : PySem.W.subIn K (.ref C) (.type "BaseException") = some true
  tyC : PySem.W.typeIn K (.ref C) = some (.type "type")
theorem rs_raise0 {X : Cx} {ks : List Nat} {x : Str} {p pos pos2 : Pos} {W : WX} {C : Addr} (k : Nat) (hc : X.calm = true) (tk : Takes X W) (hk : k ∈ ks) (hC : ExcAt X.K k C) (T : X0 X.K C) (hg : Gl X x) (hm : X.mg x = some (.ref C)) (hdb : (x == ("__debug__" : Str)) = false := by decide) :
    PS X (.Raise (some (.Call (.Name x p) [] [] pos)) none pos2) (tS X.K ⟨ZX X.K ks, W⟩ (sRaise k aNil)) :=
  PS_imp (ps_raise hc tk (pmk_own0 F.excBase_ValueError T.q hm T.kC (raises_own T.exC T.tyC) hg hdb)) fun D σ H q => by
    obtain ⟨π, ρ, G, S, k⟩ := q
    exact k _ _ σ G H (Same.refl _) Ext.refl S ⟨hk, C, [], rfl, hC, .inl ⟨rfl, rfl⟩, .nil⟩
end NV

set_option Elab.async false
set_option linter.all false
set_option maxRecDepth 100000
set_option maxHeartbeats 2000000
/-! Lay29: a tuple written at the program's top, read as a value. -/
namespace NV
open PySem PySem.Spec PyProof.Rows L2
def GTup (K : PySem.W.Frag) (mg : Str → Option Value) (x : Str) (d : D) : Prop := ∃ a, mg x = some (.ref a) ∧ ∀ H, Rep K H (.ref a) d
theorem gt_mk {K : PySem.W.Frag} {mg : Str → Option Value} {x : Str} {a : Addr} {od : Option Addr} {its : List Value} {n : Nat} {sl : Array (Option Value)} {vs : List V} {ds : List D} (hm : mg x = some (.ref a)) (l : K.lookup a = some ⟨.type "tuple", od, .seq its.toArray n, sl⟩)
    (le : its.length ≤ 64) (hv : Vals vs its) (hr : ∀ H, Reps K H vs ds) : GTup K mg x (.tup ds) :=
  ⟨a, hm, fun H => .tup (.inr ⟨_, its.toArray, n, l, rfl, rfl, by
    have e : sizeLine = 16777216 := sizeLine_eq
    have e2 : its.toArray.size = its.length := List.size_toArray
    omega, by simpa using hv⟩) (hr H)⟩
section
variable {X : Cx} {c : Lv} {pos : Pos} {x : Str}
theorem gT {d : D} (hg : Gl X x) (h : GTup X.K X.mg x d) (hd : (x == ("__debug__" : Str)) = false := by decide) : PE X (.Name x pos) (tE X.K c (eC d)) := by
  obtain ⟨a, hm, hr⟩ := h
  exact re_glob (v := .ref a) hg hm rfl hr hd
end
end NV

set_option Elab.async false
set_option linter.all false
set_option maxRecDepth 100000
set_option maxHeartbeats 4000000
/-! Lay30: reversed over a text. -/
namespace NV
open PySem PySem.Spec PyProof.Rows L2
theorem norev_str : typeLookup (.type "str") "__reversed__" = pure none := by rw [typeLookup_type, builtinLookup_eq_fast]; kernel_rfl
theorem get_str : typeLookup (.type "str") "__getitem__" = pure (some (.builtin "str.__getitem__")) := by rw [typeLookup_type, builtinLookup_eq_fast]; kernel_rfl
def rsObj (v : Value) (i : Int) : Obj := { cls := .type "reversed", data := .fields #[v, rawInt i] }
/-- reversed(v), the next place i -/
def IsRs (h : Heap) (a : Addr) (v : Value) (i : Int) : Prop := ∃ o, h.get? a = some o ∧ o.cls = .type "reversed" ∧ o.data = .fields #[v, rawInt i]
theorem IsRs.at {h h' : Heap} {a : Addr} {v : Value} {i : Int} (x : IsRs h a v i) (e : ∀ o, h.get? a = some o → h'.get? a = some o) : IsRs h' a v i := let ⟨o, ho, r⟩ := x; ⟨o, e _ ho, r⟩
section
variable {prog : Program} {w : World} {A : Around} {E : Value → Shared → Prop} {s : Shared} {x : Str} {t : Tok}
theorem IsRs.typeIs {a : Addr} {v : Value} {i : Int} (x : IsRs s.heap a v i) : s.TypeIs (.ref a) "reversed" := let ⟨o, ho, hc, _⟩ := x; ⟨o, ho, hc⟩
theorem code_reversed_str {Q₁ : Value → Shared → Prop}
    (hlen : ∀ (A : Around) (E : Value → Shared → Prop) (Q : Value → Shared → Prop), Q (.int x.length (s.toks + 1)) { s with toks := s.toks + 1 + 1 } → wpAny (model prog w) A (call (.builtin "len") [.str x t]) Q E s)
    (h : Q₁ (.ref s.heap.objs.size) { s with heap := s.heap.push (rsObj (.str x t) ((x.length : Int) - 1)), toks := s.toks + 1 + 1 }) :
    codeAny (model prog w) A (.call (.builtin "reversed.__new__") ⟨[.type "reversed", .str x t], []⟩) (wants Q₁ E) s := by
  have hT : s.TypeIs (.str x t) "str" := typeIs_str s x t
  refine codeAny_of_tree ?_
  show wpAny _ A.in1 (do checkBuiltinCall "reversed.__new__" ⟨[.type "reversed", .str x t], []⟩; again (.builtin "reversed.__new__" ⟨[.type "reversed", .str x t], []⟩)) _ _ s
  refine wpAny_bind (wpAny_of_eq (F.newCall_reversed_1 _) (wpAny_pure ⟨plainId_quiet F.plain_reversed_new _, codeAny_builtin F.entry_reversed_new ?_⟩))
  rw [Around.under_plainId F.plain_reversed_new _]
  unfold Builtin.«reversed.__new__»
  refine wpAny_bind (wpAny_of_eq (newClass_reversed _) ?_)
  try dsimp only
  refine wpAny_bind (wpAny_of_eq (a := ()) (by first | rfl | kernel_rfl) ?_)
  try dsimp only
  refine wpAny_bind (wpAny_of_eq (a := ()) (by first | rfl | kernel_rfl) ?_)
  try dsimp only
  refine wpAny_bind (wpAny_specialOf hT norev_str ?_)
  try dsimp only
  refine wpAny_bind ?_
  wp_delta
  refine wpAny_bind (wpAny_isInstance (T := "str") (U := "dict") (b := false) hT (by rw [isSubtype_type]; kernel_rfl) ?_)
  try dsimp only
  try rw [if_neg Bool.false_ne_true]
  try dsimp only
  refine wpAny_bind (wpAny_specialOf hT get_str ?_)
  try dsimp only
  try rw [if_pos (by decide +kernel)]
  refine wpAny_pure ?_
  try dsimp only
  try rw [if_neg (by decide)]
  try dsimp only
  refine wpAny_bind (hlen _ _ _ ?_)
  refine wpAny_bind (wpAny_of_eq (a := some ((x.length : Nat) : Int)) rfl ?_)
  try dsimp only
  refine wpAny_bind ?_
  show wpAny _ _ (newObj (.type "reversed") (.fields #[.str x t, rawInt ((x.length : Int) - 1)])) _ _ _
  refine wpAny_newObj_type ?_
  exact wpAny_pure h
theorem call_reversed_str {Q : Value → Shared → Prop}
    (hlen : ∀ (A : Around) (E : Value → Shared → Prop) (Q : Value → Shared → Prop), Q (.int x.length (s.toks + 1)) { s with toks := s.toks + 1 + 1 } → wpAny (model prog w) A (call (.builtin "len") [.str x t]) Q E s)
    (h : Q (.ref s.heap.objs.size) { s with heap := s.heap.push (rsObj (.str x t) ((x.length : Int) - 1)), toks := s.toks + 1 + 1 }) : wpAny (model prog w) A (call (.type "reversed") [.str x t]) Q E s := by
  refine callType_codes (Q₁ := fun obj s₁ => s₁.TypeIs obj "reversed" ∧ Q obj s₁) RT.called_rt (F.typeCall_reversed_1 _) F.entry_object_init
    (code_reversed_str (A := A.in1) hlen ⟨⟨_, Heap.get?_push_size _ rfl, rfl⟩, h⟩) fun obj s₁ h₁ => ?_
  exact ⟨h₁.1, F.args_object_init_2 obj _, object_init_meets RT.called_rt.init.lookup RT.called_rt.made (by decide) prog w A.in1 _ s₁ ⟨h₁.1, rfl, h₁.2⟩⟩
theorem next_rs_item {it : Addr} {i c : Nat} {Q : Option Value → Shared → Prop} (hit : IsRs s.heap it (.str x t) (i : Int)) (hx : x.cps[i]? = some c) (hsz : x.length ≤ sizeLine)
    (hQ : ∀ h', IsRs h' it (.str x t) ((i : Int) - 1) → Heap.SameBut it s.heap h' → Q (some (.str ⟨#[c]⟩ (s.toks + 1))) { s with heap := h', toks := s.toks + 1 + 1 }) : wpAny (model prog w) A (pyNext (.ref it)) Q E s := by
  obtain ⟨o, ho, hc, hd⟩ := id hit
  have hi : i < x.cps.size := (Array.getElem?_eq_some_iff.mp hx).1
  have hT : s.TypeIs (.str x t) "str" := typeIs_str s x t
  rw [sizeLine_eq] at hsz
  have hl : x.length = x.cps.size := rfl
  unfold pyNext
  refine wpAny_bind (wpAny_attempt (wpAny_callSpecial?_slot (name := Str.ofString "__next__") hit.typeIs RT.slot_rt_next
    (wpAny_call_entry RT.slot_rt_next hit.typeIs RT.entry_rt_next ?_ (RT.args_rt_next _))))
  unfold Builtin.«reversed.__next__»
  refine wpAny_bind (wpAny_of_eq (a := (Value.ref it, [])) rfl ?_)
  try dsimp only
  refine wpAny_bind (wpAny_field ho hd (x := .str x t) rfl ?_)
  try dsimp only
  refine wpAny_bind (wpAny_field ho hd (x := rawInt (i : Int)) rfl ?_)
  show wpAny _ _ (if (i : Int) < 0 then _ else _) _ _ s
  rw [if_neg (by omega)]
  try dsimp only
  refine wpAny_bind (wpAny_specialOf hT get_str ?_)
  try dsimp only
  try rw [if_neg (by decide)]
  try dsimp only
  refine wpAny_bind (wpAny_mkInt ?_)
  refine wpAny_bind (wpAny_attempt ?_)
  have fin : seqIndex? (i : Int) x.length = some i := seqIndex_of (by omega) (by omega)
  refine getItem_str (s := { s with toks := s.toks + 1 }) (c := c) (by
    have e1 : decide ((i : Int) < -(2 ^ 63 : Int)) = false := decide_eq_false (by omega)
    have e2 : decide ((i : Int) ≥ 2 ^ 63) = false := decide_eq_false (by omega)
    rw [e1, e2, Bool.or_false]) (by rw [fin]; exact hx) ?_
  try dsimp only
  refine wpAny_bind (wpAny_field (s := { s with toks := s.toks + 1 + 1 }) ho hd (x := rawInt (i : Int)) rfl ?_)
  try dsimp only
  refine wpAny_bind (wpAny_setField (s := { s with toks := s.toks + 1 + 1 }) ho hd (by simp) ?_)
  first
  | refine wpAny_pure ⟨_, rfl, wpAny_pure (hQ _ ?_ (Heap.SameBut.update ..))⟩
  | refine wpAny_bind (wpAny_pure (wpAny_pure ⟨_, rfl, wpAny_pure (hQ _ ?_ (Heap.SameBut.update ..))⟩))
  exact ⟨_, Heap.get?_update_self _ ho (Obj.isFreed_of_fields (Obj.data_mapFields hd _)), (Obj.cls_mapFields ..).trans hc, by
    rw [Obj.data_mapFields hd]; simp⟩
theorem next_rs_end {it : Addr} {v : Value} {Q : Option Value → Shared → Prop} (hh : A.handled = none) (hit : IsRs s.heap it v (-1))
    (hQ : ∀ h', Heap.ExtBut it s.heap h' → Q none { s with heap := h' }) : wpAny (model prog w) A (pyNext (.ref it)) Q E s := by
  obtain ⟨o, ho, hc, hd⟩ := id hit
  unfold pyNext
  refine wpAny_bind (wpAny_attempt (wpAny_callSpecial?_slot (name := Str.ofString "__next__") hit.typeIs RT.slot_rt_next
    (wpAny_call_entry RT.slot_rt_next hit.typeIs RT.entry_rt_next ?_ (RT.args_rt_next _))))
  unfold Builtin.«reversed.__next__»
  refine wpAny_bind (wpAny_of_eq (a := (Value.ref it, [])) rfl ?_)
  try dsimp only
  refine wpAny_bind (wpAny_field ho hd (x := v) rfl ?_)
  try dsimp only
  refine wpAny_bind (wpAny_field ho hd (x := rawInt (-1)) rfl ?_)
  show wpAny _ _ (if (-1 : Int) < 0 then _ else _) _ _ s
  rw [if_pos (by decide)]
  try dsimp only
  refine wpAny_bind (wpAny_rule ?_)
  refine wpAny_bind ?_
  wp_delta
  refine wpAny_bind (wpAny_setField ho hd (by simp) ?_)
  have ho2 := Heap.get?_update_self (Obj.mapFields (·.setIfInBounds 1 (rawInt (-1)))) ho (Obj.isFreed_of_fields (Obj.data_mapFields hd _))
  refine wpAny_setField (s := { s with heap := s.heap.update it (Obj.mapFields (·.setIfInBounds 1 (rawInt (-1)))) }) ho2 (Obj.data_mapFields hd _) (by simp) ?_
  try dsimp only
  first
  | show wpAny _ _ (newExc (.type "StopIteration") [] >>= _) _ _ _
  | (refine wpAny_bind ?_; show wpAny _ _ (newExc (.type "StopIteration") [] >>= _) _ _ _)
  | (refine wpAny_bind ?_; wp_delta; show wpAny _ _ (newExc (.type "StopIteration") [] >>= _) _ _ _)
  refine wpAny_bind ?_
  simp only [newExc, newTuple]
  refine wpAny_bind (wpAny_newObj_type ?_ (by size_fits))
  refine wpAny_bind (m := firstArgMember _ _) (wpAny_of_eq (a := Value.none) (by first | rfl | (simp only [firstArgMember]; rfl)) ?_)
  refine wpAny_newObj_type ?_ (by size_fits)
  simp only [raiseNew]
  refine wpAny_bind (wpAny_handled ?_)
  first | rw [show A.in1.handled = none from hh] | rw [hh]
  refine wpAny_bind (wpAny_pure (wpAny_throw ?_))
  refine wpAny_bind (wpAny_isInstance (T := "StopIteration") (b := true) ⟨_, Heap.get?_push_size _ rfl, rfl⟩ isSubtype_stop ?_)
  refine wpAny_pure (hQ _ ?_)
  refine ((?_ : Heap.ExtBut it s.heap _).push _).push _
  exact fun b ob hb e => (Heap.get?_update_other _ _ (Ne.symm hb)).trans ((Heap.get?_update_other _ _ (Ne.symm hb)).trans e)
theorem iter_rs {it : Addr} {v : Value} {i : Int} {Q : Value → Shared → Prop} (hit : IsRs s.heap it v i) (h : Q (.ref it) s) : wpAny (model prog w) A (pyIter (.ref it)) Q E s := by
  refine wpAny_pyIter_slot hit.typeIs RT.slot_rt_iter (wpAny_call_entry RT.slot_rt_iter hit.typeIs RT.entry_rt_iter ?_ (RT.args_rt_iter _))
  show wpAny _ _ (ret (.ref it)) _ _ s
  exact wpAny_pure ⟨_, rfl, "reversed", _, hit.typeIs, RT.slot_rt_next.lookup, h⟩
end
/-- a text from its end -/
def Itrs (x : Str) : It := ⟨fun i _ => i < x.cps.size, fun i H v H' => H' = H ∧ ∃ c, x.cps[x.cps.size - 1 - i]? = some c ∧ v = .str ⟨#[c]⟩, fun i _ => x.cps.size ≤ i⟩
theorem turn_rs {P : Program} {w : World} {K : PySem.W.Frag} {tg : Expr} (it : Addr) (x : Str) (t : Tok) (hz : x.length ≤ sizeLine) :
    Turn P w K tg (Itrs x) [it] it (fun i h => i ≤ x.cps.size ∧ IsRs h it (.str x t) ((x.cps.size : Int) - 1 - (i : Nat))) where
  mem := by simp
  obj := fun i h st b hb => by
    have e : b = it := by simpa using hb
    subst e
    obtain ⟨_, o, e, c, d⟩ := st
    exact ⟨o, e, fun v z => by rw [d] at z; cases z⟩
  keep := fun i h h' st k => ⟨st.1, st.2.at fun o e => k it (by simp) o e⟩
  item := by
    intro X hP hw hK hc i pins s σ H E I hf st hg
    subst hP hw hK
    have hin : i < x.cps.size := hg
    obtain ⟨f0, f1, f2, f3, f4, f5⟩ := hf it (by simp)
    obtain ⟨_, hit⟩ := st
    have e1 : (x.cps.size : Int) - 1 - ((i : Nat) : Int) = ((x.cps.size - 1 - i : Nat) : Int) := by omega
    rw [e1] at hit
    have hlt : x.cps.size - 1 - i < x.cps.size := by omega
    have hx : x.cps[x.cps.size - 1 - i]? = some x.cps[x.cps.size - 1 - i] := Array.getElem?_eq_getElem hlt
    refine next_rs_item hit hx hz fun h' st' sb => ?_
    have e2 : ((x.cps.size - 1 - i : Nat) : Int) - 1 = (x.cps.size : Int) - 1 - ((i + 1 : Nat) : Int) := by omega
    rw [e2] at st'
    have I1 : Inv X pins σ H { s with heap := h', toks := s.toks + 1 + 1 } := I.turned (t' := s.toks + 1 + 1) (fun b o hb e => (sb.2 b hb).trans e) f0 f1 f3 f4 f5
    obtain ⟨o, e, c, d⟩ := id st'
    exact ⟨_, rfl, go_of (s := { s with heap := h', toks := s.toks + 1 + 1 }) e c d (by decide) ⟨.str ⟨#[x.cps[x.cps.size - 1 - i]]⟩, H, I1, ⟨_, rfl⟩, ⟨rfl, _, hx, rfl⟩, ⟨hin, st'⟩, fun b hb => (hf b hb).1⟩⟩
  done := by
    intro X hP hw hK hc i pins s σ H E I hf st hg
    subst hP hw hK
    obtain ⟨f0, f1, f2, f3, f4, f5⟩ := hf it (by simp)
    obtain ⟨hin, hit⟩ := st
    have hge : x.cps.size ≤ i := hg
    have e1 : (x.cps.size : Int) - 1 - ((i : Nat) : Int) = -1 := by omega
    rw [e1] at hit
    exact next_rs_end (I.ok.hd hc) hit fun h' eb => ⟨rfl, I.turned (t' := s.toks) (fun b o hb e => eb b o hb e) f0 f1 f3 f4 f5⟩
  self := fun A i s Q E st h => iter_rs st.2 h
def iRevS (ta : TA) : TI := fun σ H R => ta σ H fun vs H1 => ∃ x, vs = [.str x] ∧ x.length ≤ sizeLine ∧ R (Itrs x) H1
theorem pi_revS {X : Cx} {tg e : Expr} {ta : TA} {p pos : Pos} (hg : Gl X "reversed") (hm : X.mg "reversed" = none) (ha : PA X [e] ta) (hs : starEach [e] X.env = [(false, eval e X.env)] := by rfl) : PI X tg (.Call (.Name "reversed" p) [e] [] pos) (iRevS ta) := by
  refine ⟨fun pins s σ H R I h => ?_⟩
  refine Call_ (ld_blt I hg hm PyProof.Rows.boot_reversed (PyProof.Rows.callWith_type1 (thn (ha.run pos pins s σ H _ I h) fun us s1 ⟨vs, H1, I1, r1, q1⟩ => ?_) hs rfl))
  obtain ⟨x, ex, hz, q⟩ := q1
  subst ex
  cases r1 with
  | cons r rr =>
    cases rr
    obtain ⟨t, rfl⟩ := r
    have hn := line63
    refine call_reversed_str (fun A E Q k => P.len_str (by omega) k) (iter_rs (v := .str x t) (i := (x.length : Int) - 1) ⟨_, Heap.get?_push_size _ rfl, rfl, rfl⟩ ?_)
    refine pi_one (tk := s1.toks + 1 + 1) I1 _ (turn_rs _ x t hz) ⟨Nat.zero_le _, ?_⟩ q
    have e1 : (x.cps.size : Int) - 1 - ((0 : Nat) : Int) = (x.length : Int) - 1 := by show ((x.length : Nat) : Int) - 1 - 0 = _; omega
    rw [e1]
    exact ⟨_, Heap.get?_push_size _ rfl, rfl, rfl⟩
theorem itok_revS {K : PySem.W.Frag} {G : Hp} {s : List Nat} : ItOk K (Itrs (ofL s)) G (s.map fun c => D.str [c]).reverse := by
  unfold ItOk
  have hl : (s.map fun c => D.str [c]).reverse.length = (ofL s).cps.size := by
    rw [List.length_reverse, List.length_map]
    exact (ofL_len s).symm
  rw [hl]
  refine ⟨fun _ _ hi _ => hi, fun _ _ => Nat.le_refl _, fun i H x H' hi g y => ?_⟩
  obtain ⟨e, c, hc, rfl⟩ := y
  subst e
  have hs : (ofL s).cps.size = s.length := ofL_len s
  have : s[s.length - 1 - i]? = some c := by
    have := hc
    rw [hs, ← Array.getElem?_toList, ofL_cps] at this
    exact this
  exact ⟨.str [c], by rw [List.getElem?_reverse (by rw [List.length_map]; omega), List.length_map, List.getElem?_map, this]; rfl, fun Gi s1 s2 => ⟨Gi, Grow.refl s2, .str [c]⟩⟩
section
variable {X : Cx} {c : Lv} {a : Expr} {f : Ev} {pos p : Pos} {tg : Expr}
theorem ri_rev2 (hg : Gl X "reversed") (hm : X.mg "reversed" = none) (ha : PE X a (tE X.K c f)) (hs : starEach [a] X.env = [(false, eval a X.env)] := by rfl) : PI X tg (.Call (.Name "reversed" p) [a] [] pos) (tI X.K c (iRev2 f)) := ⟨fun pins s σ H R I q => by
  obtain ⟨π, ρ, G, S, k⟩ := q
  by_cases z : ∃ t ρ1, f ρ = .ok (.str t) ρ1
  · obtain ⟨t, ρ1, z⟩ := z
    have k' := Po.bind k
    refine (pi_revS hg hm (pa_cons ha pa_nil hs) hs).run pins s σ H R I ⟨π, ρ, G, S, ?_⟩
    rw [z] at k' ⊢
    intro G1 H1 s1 e1 S1 w rw'
    cases rw'
    have k2 := k' G1 H1 s1 e1 S1
    dsimp only [itR] at k2
    by_cases hl : t.length ≤ line
    · rw [if_pos hl] at k2
      exact ⟨_, rfl, by rw [ofL_len]; rw [← line_eq]; exact hl, k2.now S1 _ itok_revS⟩
    · rw [if_neg hl] at k2
      exact False.elim k2
  · refine (ri_rev hg hm ha hs).run pins s σ H R I ⟨π, ρ, G, S, ?_⟩
    have e : iRev2 f ρ = iRev f ρ := by
      unfold iRev2 iRev
      cases h : f ρ with
      | ok d ρ1 =>
        cases d <;> first | rfl | exact absurd ⟨_, _, h⟩ z
      | rz x ρ1 => rfl
      | st => rfl
    rw [← e]
    exact k⟩
end
end NV

set_option Elab.async false
set_option linter.all false
set_option maxRecDepth 100000
set_option maxHeartbeats 4000000
/-! Lay31: a tuple told whose list is changed behind the tests, and then forgotten. -/
namespace NV
open PySem PySem.Spec PyProof.Rows L2
theorem mono_int {n : Int} : Mono (tC (.int n)) := fun _ _ _ _ m q => m _ _ q
theorem mono_neg {ts : TE} (h : Mono ts) : Mono (tUn (rU fun i => .int (-i)) ts) := fun σ H Q Q' m q => h σ H _ _ (fun v H1 ⟨i, e, q1⟩ => ⟨i, e, m _ _ q1⟩) q
theorem mono_ixT {K : PySem.W.Frag} {tb ts : TE} (hb : Mono tb) (hs : Mono ts) : Mono (tOp (rIxT K) tb ts) := fun σ H Q Q' m q =>
  hb σ H _ _ (fun x H1 q1 => hs σ H1 _ _ (fun y H2 ⟨p, xs, i, v, a1, a2, a3, a4, a5⟩ => ⟨p, xs, i, v, a1, a2, a3, a4, m _ _ a5⟩) q1) q
/-- what says a whole number, and nothing else -/
structure SayN (ts : TE) (n : Int) : Prop where
  ok : ∀ σ H Q, Q (.int n) H → ts σ H Q
theorem say_int {n : Int} : SayN (tC (.int n)) n := ⟨fun _ _ _ q => q⟩
theorem say_neg {ts : TE} {n : Int} (h : SayN ts n) : SayN (tUn (rU fun i => .int (-i)) ts) (-n) := ⟨fun σ H Q q => h.ok σ H _ ⟨n, rfl, q⟩⟩
section
variable {X : Cx} {c : Lv} {e g : Expr} {f gv : Ev} {pos p apos cpos : Pos} {x : Str} {sts : List Stmt} {B : Es} {ts : TE} {n : Int}
theorem mutT_core {K : PySem.W.Frag} {π : Nat → Addr} {ρ ρ0 : Env} {d : D} {G0 Gx : Hp} {σ σ0 : St} {H H0 : Hp} {i : Nat} (T : Tree K π ρ i d G0 Gx σ H ρ0 σ0 H0) {D : Ends} (sn : SayN ts n) (h : PoS K c π ρ0 G0 σ0 H0 (sMutT i n f B ρ) D) :
    tMut K c (tOp (rIxT K) (tVar i) ts) f { D with nx := tS K c B D } σ H := by
  obtain ⟨w, ew, r⟩ := T.rep
  have no := noOwn_set (i := i) (s := .un) T.no rfl
  unfold sMutT at h
  rw [T.at'] at h
  dsimp only at h
  by_cases ht : tupAt d n = true
  · rw [if_pos ht] at h
    cases z : f (ρ.set i .un) with
    | ok d1 ρ1 =>
      rw [z] at h
      dsimp only at h
      unfold tupAt at ht
      cases d <;> first | cases ht | skip
      rename_i ds
      dsimp only at ht
      cases ea : NV.at? ds n with
      | none => rw [ea] at ht; cases ht
      | some el =>
        rw [ea] at ht
        cases el <;> first | cases ht | skip
        rename_i es
        have hl : es.length + 1 < line := of_decide_eq_true ht
        cases r with
        | tup hsq rs =>
          rename_i P xs
          obtain ⟨j, hj, hat⟩ := at_len rs.length ea
          obtain ⟨q, hq1, hq2⟩ := rs.get hj
          have hat := hat q hq1
          cases hq2 with
          | lst hQ rL =>
            rename_i Q L
            have lL := rL.length
            have nQ := T.sep _ _ hQ
            have HQ := T.sx _ _ hQ
            refine ⟨_, ew, sn.ok _ _ _ ⟨_, _, _, _, rfl, rfl, Same.tupS T.sx hsq, hat, _, _, rfl, HQ, tE_free T.S no z fun w1 H1 s1 => ⟨_, s1 _ _ HQ, by omega, ?_⟩⟩⟩
            have kC : Same H0 (upd H1 Q (.lst (L ++ [w1]))) := fun b o e => by
              rw [upd_ne (fun z => by subst z; rw [nQ] at e; cases e)]
              exact s1 _ _ (T.keep _ _ e)
            exact ⟨π, _, G0, T.S.free no (T.sub0.trans kC), PoS.step (Same.refl _) (T.ext kC) h⟩
    | rz _ _ => rw [z] at h; exact False.elim h
    | st => rw [z] at h; exact False.elim h
  · rw [if_neg ht] at h; exact False.elim h
theorem rss_mutT (i : Nat) {px ps : Pos} {es : Expr} (hN : X.N[i]? = some x) (hv : Vis X.env.scope x) (hs : PE X es ts) (mt : Mono ts) (sn : SayN ts n) (hb : PSs X sts (tS X.K c B))
    (m1 : ∀ {tb : TE} (hm : Mono tb) (hbs : PE X (.Subscript (.Name x px) es ps) tb), PS X (.Expr (.Call (.Attribute (.Subscript (.Name x px) es ps) "append" apos) [e] [] cpos) p) (tMut X.K c tb f))
    (hp : PlainIx es) (hd : (x == ("__debug__" : Str)) = false := by decide) (hcd : (x == ("__classdict__" : Str)) = false := by decide) :
    PSs X (.Expr (.Call (.Attribute (.Subscript (.Name x px) es ps) "append" apos) [e] [] cpos) p :: sts) (tF X.K c i (sMutT i n f B)) :=
  PSs_imp (pss_cons (m1 (mono_ixT mono_var mt) (pe_ix ix_tup (pe_var hN hv hd hcd) hs hp)) hb) fun D σ H q => by
    obtain ⟨π, ρ, d, G0, Gx, ρ0, σ0, H0, T, k⟩ := q
    exact mutT_core T sn k
theorem rss_mutIf (i : Nat) {px ps : Pos} {es : Expr} (hN : X.N[i]? = some x) (hv : Vis X.env.scope x) (hg : PT X g (tT X.K c gv)) (hs : PE X es ts) (mt : Mono ts) (sn : SayN ts n) (hb : PSs X sts (tS X.K c B))
    (m1 : ∀ {tb : TE} (hm : Mono tb) (hbs : PE X (.Subscript (.Name x px) es ps) tb), PS X (.Expr (.Call (.Attribute (.Subscript (.Name x px) es ps) "append" apos) [e] [] cpos) p) (tMut X.K c tb f))
    (hp : PlainIx es) (hd : (x == ("__debug__" : Str)) = false := by decide) (hcd : (x == ("__classdict__" : Str)) = false := by decide) :
    PSs X (.If g [.Expr (.Call (.Attribute (.Subscript (.Name x px) es ps) "append" apos) [e] [] cpos) p] [] pos :: sts) (tF X.K c i (sMutIf i gv n f B)) :=
  PSs_imp (pss_cons (ps_if hg (pss_one (m1 (mono_ixT mono_var mt) (pe_ix ix_tup (pe_var hN hv hd hcd) hs hp))) pss_nil) hb) fun D σ H q => by
    obtain ⟨π, ρ, d, G0, Gx, ρ0, σ0, H0, T, k⟩ := q
    refine ⟨π, ρ, _, T.both, ?_⟩
    unfold sMutIf at k
    cases z : gv ρ with
    | ok b ρ1 =>
      rw [z] at k
      intro G' H' s' e' S'
      have kp : Same H H' := fun b o h => (e' b o h (noOwn T.no)).1
      have T' := T.turn kp
      cases b with
      | bl v =>
        refine ⟨v, rfl, ?_⟩
        cases v with
        | true => exact iteT (mutT_core T' sn k)
        | false => exact iteF ⟨π, _, G0, T'.S, PoS.step (Same.refl _) (T'.ext T'.keep) k⟩
      | _ => exact False.elim k
    | rz _ _ => rw [z] at k; exact False.elim k
    | st => rw [z] at k; exact False.elim k
end
end NV

set_option Elab.async false
set_option linter.all false
set_option maxRecDepth 100000
set_option maxHeartbeats 4000000
/-! Lay32: "".join(reversed(text)). -/
namespace NV
open PySem PySem.Spec PyProof.Rows L2
theorem nolen_rs : typeLookup (.type "reversed") "__len__" = pure none := by rw [typeLookup_type, builtinLookup_eq_fast]; kernel_rfl
theorem hint_rs : typeLookup (.type "reversed") "__length_hint__" = pure (some (.builtin "reversed.__length_hint__")) := by rw [typeLookup_type, builtinLookup_eq_fast]; kernel_rfl
theorem slot_rs_hint : Slot "reversed" "__length_hint__" "reversed.__length_hint__" :=
  .of (owner := "reversed") (n := "__length_hint__") (by rw [typeLookup_type, builtinLookup_eq_fast]; kernel_rfl) (by decide +kernel) (by decide +kernel) (by decide +kernel)
    (by first | exact .inl (by decide +kernel) | exact .inr (by decide +kernel)) (by rw [isSubtype_type]; kernel_rfl)
theorem entry_rs_hint : entryFor table "reversed.__length_hint__" = some Builtin.«reversed.__length_hint__» := entryFor_of_tree (by kernel_rfl)
theorem args_rs_hint (a : Value) : argsOk "reversed.__length_hint__" ⟨[a], []⟩ := by unfold argsOk; kernel_rfl
theorem wp_neg {α : Type} {M : Model} {A : Around} {c : Prop} [Decidable c] {a b : Sem α} {Q : α → Shared → Prop} {E : Value → Shared → Prop} {s : Shared} (h : ¬ c) (k : wpAny M A b Q E s) : wpAny M A (if c then a else b) Q E s := by rw [if_neg h]; exact k
theorem wp_pos {α : Type} {M : Model} {A : Around} {c : Prop} [Decidable c] {a b : Sem α} {Q : α → Shared → Prop} {E : Value → Shared → Prop} {s : Shared} (h : c) (k : wpAny M A a Q E s) : wpAny M A (if c then a else b) Q E s := by rw [if_pos h]; exact k
section
variable {prog : Program} {w : World} {A : Around} {E : Value → Shared → Prop} {s : Shared} {x : Str} {t : Tok}
theorem call_rs_hint {it : Addr} {Q : Value → Shared → Prop} (hit : IsRs s.heap it (.str x t) ((x.length : Int) - 1)) (hz : x.length ≤ sizeLine)
    (h : ∀ tk k, s.toks ≤ k → Q (.int x.length tk) { s with toks := k }) : wpAny (model prog w) A (call (.builtin "reversed.__length_hint__") [.ref it]) Q E s := by
  obtain ⟨o, ho, hc, hd⟩ := id hit
  have hn := line63
  refine wpAny_call_entry slot_rs_hint hit.typeIs entry_rs_hint ?_ (args_rs_hint _)
  unfold Builtin.«reversed.__length_hint__»
  refine wpAny_bind (wpAny_of_eq (a := Value.ref it) rfl ?_)
  try dsimp only
  refine wpAny_bind (wpAny_field ho hd (x := .str x t) rfl ?_)
  rw [if_neg (show ¬ ((Value.str x t == Value.none) = true) from Bool.false_ne_true)]
  try dsimp only
  refine wpAny_bind (P.len_str (by omega) ?_)
  refine wpAny_bind (wpAny_of_eq (a := some ((x.length : Nat) : Int)) rfl ?_)
  try dsimp only
  refine wpAny_bind (wpAny_field (s := { s with toks := s.toks + 1 + 1 }) ho hd (x := rawInt ((x.length : Int) - 1)) rfl ?_)
  show wpAny _ _ (if (x.length : Int) < ((x.length : Int) - 1) + 1 then _ else retInt (((x.length : Int) - 1) + 1)) _ _ _
  rw [if_neg (by omega), show ((x.length : Int) - 1) + 1 = (x.length : Int) by omega]
  refine wpAny_bind (wpAny_mkInt ?_)
  exact wpAny_pure ⟨_, rfl, h _ _ (by show s.toks ≤ s.toks + 1 + 1 + 1; omega)⟩
/-- the walk over it -/
theorem walks_rs {it : Addr} (hh : A.handled = none) (hz : x.length ≤ sizeLine) :
    WalksS prog w A it [it] [it] (fun a b => b = a) x.cps.size (fun i v => ∃ c u, x.cps[x.cps.size - 1 - i]? = some c ∧ v = Value.str ⟨#[c]⟩ u) (fun i s => i ≤ x.cps.size ∧ IsRs s.heap it (.str x t) ((x.cps.size : Int) - 1 - (i : Nat))) where
  sub := fun b hb => hb
  grefl := fun _ => rfl
  gtrans := fun _ _ _ h1 h2 => h2.trans h1
  frame := fun i s h' tk st _ hk => ⟨st.1, st.2.at fun o e => hk it (by simp) o e⟩
  item := fun i s Q E hi st hQ => by
    obtain ⟨_, hit⟩ := st
    have e1 : (x.cps.size : Int) - 1 - ((i : Nat) : Int) = ((x.cps.size - 1 - i : Nat) : Int) := by omega
    rw [e1] at hit
    have hlt : x.cps.size - 1 - i < x.cps.size := by omega
    have hx : x.cps[x.cps.size - 1 - i]? = some x.cps[x.cps.size - 1 - i] := Array.getElem?_eq_getElem hlt
    refine next_rs_item hit hx hz fun h' st' sb => ?_
    have e2 : ((x.cps.size - 1 - i : Nat) : Int) - 1 = (x.cps.size : Int) - 1 - ((i + 1 : Nat) : Int) := by omega
    rw [e2] at st'
    exact hQ _ { s with heap := h', toks := s.toks + 1 + 1 } ⟨_, _, hx, rfl⟩ ⟨hi, st'⟩ ⟨fun b ob hb e => (sb.2 b (fun z => hb (by simp [z]))).trans e, rfl, rfl, rfl, by show s.toks ≤ s.toks + 1 + 1; omega⟩
  done := fun s Q E st hQ => by
    obtain ⟨_, hit⟩ := st
    have e1 : (x.cps.size : Int) - 1 - ((x.cps.size : Nat) : Int) = -1 := by omega
    rw [e1] at hit
    exact next_rs_end hh hit fun h' hx => hQ { s with heap := h' } ⟨fun b ob hb e => hx b ob (fun h => hb (by simp [h])) e, rfl, rfl, rfl, Nat.le_refl _⟩
  self := fun i s Q E st hQ => iter_rs st.2 hQ
theorem listHint_rs {it : Addr} {Q : Bool → Shared → Prop} (hz : x.length ≤ sizeLine) (hit : IsRs s.heap it (.str x t) ((x.length : Int) - 1))
    (h : ∀ k, s.toks ≤ k → Q ((x.length : Int) != 0) { s with toks := k }) : wpAny (model prog w) A (Builtin.List.listLengthHint (.ref it)) Q E s := by
  have hT : s.TypeIs (.ref it) "reversed" := hit.typeIs
  have hn := line63
  unfold Builtin.List.listLengthHint
  refine wpAny_bind (wpAny_specialOf hT nolen_rs ?_)
  show wpAny _ A (specialOf (Value.ref it) (Str.ofString "__length_hint__") >>= _) _ _ _
  refine wpAny_bind (wpAny_specialOf hT hint_rs ?_)
  generalize hid : ("reversed.__length_hint__" : String) = id0
  wp_delta
  rw [show splitId id0 = some ("reversed", "__length_hint__") from by subst hid; decide +kernel]
  subst hid
  refine wpAny_bind (wpAny_isInstance (b := true) hT (by rw [isSubtype_type]; kernel_rfl) ?_)
  rw [if_neg (by decide)]
  try dsimp only
  refine wp_neg ?hsil ?_
  case hsil => first | decide +kernel | exact ne_of_eq_of_ne (b := false) (by kernel_rfl) Bool.false_ne_true
  refine wpAny_bind (wpAny_rule ?_)
  refine wpAny_bind (wpAny_of_eq (slot_rs_hint.bind _) ?_)
  try dsimp only
  refine wpAny_bind (wpAny_attempt (call_rs_hint hit hz fun tk k hk => ?_))
  try dsimp only
  have f1 : Builtin.List.listFitsIndex (x.length : Int) = true := by
    unfold Builtin.List.listFitsIndex
    rw [Bool.and_eq_true, decide_eq_true_eq, decide_eq_true_eq]
    omega
  rw [show asInt? (Value.int (x.length : Int) tk) = pure (some (x.length : Int)) from rfl, pure_bind]
  dsimp only
  rw [f1, if_neg (show ¬ ((!true) = true) by decide)]
  have f2 : ¬ ((x.length : Int) < 0) := by omega
  have f3 : Builtin.List.listTooLong ((x.length : Int)).toNat = false := by unfold Builtin.List.listTooLong; rw [decide_eq_false_iff_not]; omega
  rw [if_neg f2, f3, if_neg Bool.false_ne_true]
  exact wpAny_pure (h k hk)
theorem collect_rs {it : Addr} {Q : List Value → Shared → Prop} (hh : A.handled = none) (hz : x.length ≤ sizeLine) (hx0 : x.cps.size ≠ 0) (hit : IsRs s.heap it (.str x t) ((x.length : Int) - 1))
    (hQ : ∀ s' acc, Moved [it] (fun a b => b = a) s s' → ItemsOf (fun i v => ∃ c u, x.cps[x.cps.size - 1 - i]? = some c ∧ v = Value.str ⟨#[c]⟩ u) acc x.cps.size → Q acc.toList s') : wpAny (model prog w) A (collect (.ref it)) Q E s := by
  have W := walks_rs (prog := prog) (w := w) (A := A.in1) (x := x) (t := t) (it := it) hh hz
  obtain ⟨oi, hoi, _⟩ := id hit
  have hlt : it < s.heap.objs.size := Heap.lt_size hoi
  have hSI : s.heap.objs.size ≠ it := Nat.ne_of_gt hlt
  have hSf : s.heap.objs.size ∉ [it] := fun m => hSI (List.mem_singleton.mp m)
  have hlen : x.length = x.cps.size := rfl
  have hst : (0 : Nat) ≤ x.cps.size ∧ IsRs s.heap it (.str x t) ((x.cps.size : Int) - 1 - ((0 : Nat) : Int)) := ⟨Nat.zero_le _, by
    rw [show (x.cps.size : Int) - 1 - ((0 : Nat) : Int) = (x.length : Int) - 1 by omega]; exact hit⟩
  unfold collect
  refine wpAny_bind (wpAny_runValue (codeAny_builtin F.entry_proto_collect ?_))
  rw [Around.under_plainId F.plain_proto_collect _]
  show wpAny _ A.in1 (newList [] >>= fun l => again (.builtin "list.__iadd__" ⟨[l, .ref it], []⟩)) _ _ s
  refine wpAny_bind (wpAny_newObj_type ?_)
  refine wpAny_pure ⟨plainId_quiet F.plain_list_iadd _, codeAny_builtin F.entry_list_iadd ?_⟩
  rw [Around.under_plainId F.plain_list_iadd _]
  have hst₁ := W.frame 0 s (s.heap.push { cls := .type "list", data := .seq ([] : List Value).toArray }) s.toks hst (Nat.le_refl _) fun b _ o e => Heap.get?_push_of_some _ e
  have hT : ({ s with heap := s.heap.push { cls := .type "list", data := .seq ([] : List Value).toArray } } : Shared).TypeIs (.ref it) "reversed" := hst₁.2.typeIs
  show wpAny _ A.in1 (Builtin.List.listExtendWith (.ref s.heap.objs.size) (.ref it) (.ref s.heap.objs.size)) _ _ _
  unfold Builtin.List.listExtendWith
  refine wpAny_bind (wpAny_typeOf hT ?_)
  have h1 : Builtin.List.listSameRef (.ref s.heap.objs.size) (.ref it) = false := by simp [Builtin.List.listSameRef, hSI]
  rw [if_neg (by rw [h1]; decide)]
  refine wpAny_bind (W.self 0 _ _ _ hst₁ ?_)
  refine wpAny_bind (wpAny_holding ?_)
  have hit1 : IsRs (s.heap.push { cls := .type "list", data := .seq ([] : List Value).toArray }) it (.str x t) ((x.length : Int) - 1) := hit.at fun o e => Heap.get?_push_of_some _ e
  refine listHint_rs (s := { s with heap := s.heap.push { cls := .type "list", data := .seq ([] : List Value).toArray } }) hz hit1 fun k hk => ?_
  have nz : ((x.length : Int) != 0) = true := by
    rw [bne_iff_ne]; omega
  refine wp_pos (by rw [nz]; rfl) ?_
  refine wpAny_bind (wpAny_rule ?_)
  have hS₁ : (s.heap.push { cls := .type "list", data := .seq ([] : List Value).toArray }).get? s.heap.objs.size = some { cls := .type "list", data := .seq ([] : List Value).toArray } := Heap.get?_push_size _ rfl
  refine wpAny_bind ?_
  show wpAny _ A.in1 (updateSeq s.heap.objs.size (·.push .none) >>= fun _ => updateSeq s.heap.objs.size (·.pop)) _ _ _
  refine wpAny_bind (wpAny_updateSeq hS₁ rfl ?_)
  have hS₂ := Heap.get?_update_self (Obj.mapSeq (·.push Value.none)) hS₁ rfl
  refine wpAny_updateSeq hS₂ rfl ?_
  have hS₃ := Heap.get?_update_self (Obj.mapSeq (·.pop)) hS₂ rfl
  have oth : ∀ b o, b ≠ s.heap.objs.size → (s.heap.push { cls := .type "list", data := .seq ([] : List Value).toArray }).get? b = some o →
      (((s.heap.push { cls := .type "list", data := .seq ([] : List Value).toArray }).update s.heap.objs.size (Obj.mapSeq (·.push Value.none))).update s.heap.objs.size (Obj.mapSeq (·.pop))).get? b = some o :=
    fun b o hb e => (Heap.get?_update_other _ _ (Ne.symm hb)).trans ((Heap.get?_update_other _ _ (Ne.symm hb)).trans e)
  refine wpAny_pure ⟨plainId_quiet F.plain_extend_loop _, codeAny_extend_loopS W (by rw [← hlen]; exact hz) _ hSf _ x.cps.size 0 _ _ _ rfl (Nat.zero_le _)
    (W.frame 0 ({ s with heap := s.heap.push { cls := .type "list", data := .seq ([] : List Value).toArray } } : Shared) _ k hst₁ hk fun b hb o e => oth b o (fun h => hSf (h ▸ hb)) e) hS₃ (ItemsOf.nil _) fun s' acc' c' hm hS' hacc => ?_⟩
  show wpAny _ A (load s.heap.objs.size >>= _) _ _ s'
  refine wpAny_bind (wpAny_load hS' ?_)
  refine wpAny_pure (hQ s' acc' ⟨fun b o hb e => ?_, hm.gens, hm.drawn, hm.os, Nat.le_trans hk hm.toks⟩ hacc)
  have hbs : b ≠ s.heap.objs.size := Nat.ne_of_lt (Heap.lt_size e)
  refine hm.heap b o (fun hmem => ?_) (oth b o hbs (Heap.get?_push_of_some _ e))
  rcases List.mem_cons.mp hmem with e' | hmem
  · exact hbs e'
  · exact hb hmem
theorem strs_rev : ∀ (n : Nat) (xs : List Nat) (acc : List Value), xs.length = n → acc.length = n → (∀ i v, acc[i]? = some v → ∃ c u, xs[n - 1 - i]? = some c ∧ v = Value.str ⟨#[c]⟩ u) → StrsAre acc (xs.reverse.map fun c => (⟨#[c]⟩ : Str))
  | 0, xs, acc, h1, h2, _ => by
    obtain rfl := List.length_eq_zero_iff.mp h1
    obtain rfl := List.length_eq_zero_iff.mp h2
    exact .nil
  | n + 1, xs, v :: acc, h1, h2, h => by
    obtain ⟨c, u, hc, rfl⟩ := h 0 v rfl
    rw [show n + 1 - 1 - 0 = n by omega] at hc
    have e : xs = xs.take n ++ [c] := by
      have := List.take_append_drop n xs
      rw [List.drop_eq_getElem_cons (by omega), List.drop_of_length_le (by omega)] at this
      have h3 : xs[n]'(by omega) = c := by
        rw [List.getElem?_eq_getElem (by omega)] at hc
        exact Option.some.inj hc
      rw [h3] at this
      exact this.symm
    rw [e, List.reverse_append, List.reverse_singleton, List.singleton_append, List.map_cons]
    refine .cons _ u (strs_rev n (xs.take n) acc (by rw [List.length_take]; omega) (by simpa using h2) fun i v hv => ?_)
    obtain ⟨c2, u2, hc2, rfl⟩ := h (i + 1) v hv
    have hi : i < acc.length := by
      rcases Nat.lt_or_ge i acc.length with z | z
      · exact z
      · rw [List.getElem?_eq_none z] at hv; cases hv
    have hl : acc.length = n := by simpa using h2
    exact ⟨c2, u2, by rw [List.getElem?_take_of_lt (by omega), show n - 1 - i = n + 1 - 1 - (i + 1) by omega]; exact hc2, rfl⟩
theorem join_one (xs : List Nat) : Txt.join ⟨#[]⟩ (xs.map fun c => (⟨#[c]⟩ : Str)) = ⟨xs.toArray⟩ := by
  have h := join_ofL [] (xs.map fun c => [c])
  rw [List.map_map] at h
  have e : ∀ ys : List Nat, NV.joinL [] (ys.map fun c => [c]) = ys := fun ys => by
    induction ys with
    | nil => rfl
    | cons y r ih =>
      cases r with
      | nil => rfl
      | cons z r => 
        show [y] ++ [] ++ NV.joinL [] ((z :: r).map fun c => [c]) = _
        rw [ih]; rfl
  rw [e] at h
  exact h
theorem join_rs {it : Addr} {Q : Value → Shared → Prop} {z : Str} {tz : Tok} (hh : A.handled = none) (hz : x.length ≤ sizeLine) (hx0 : x.cps.size ≠ 0) (hit : IsRs s.heap it (.str x t) ((x.length : Int) - 1)) (hz0 : z = ⟨#[]⟩) (hzs : x.cps.size ≤ 16777216)
    (hq : ∀ h' t' k, (∀ b o, b ≠ it → s.heap.get? b = some o → h'.get? b = some o) → Q (.str ⟨x.cps.toList.reverse.toArray⟩ t') { s with heap := h', toks := k }) :
    wpAny (model prog w) A (call (.builtin "str.join") [.str z tz, .ref it]) Q E s := by
  have hT : s.TypeIs (.ref it) "reversed" := hit.typeIs
  refine wpAny_call (codeAny_call_builtin F.slot_str_join.plain F.entry_str_join (F.slot_str_join.check _ _ _ _ _ _ _ _ (typeIs_str _ _ _) (F.args_str_join_2 _ _) ?_))
  rw [join_tree_other]
  refine wpAny_bind (wpAny_typeOf hT ?_)
  show wpAny _ A.in1 ((pyIter (.ref it)).tryCatch _ >>= fun it => collect it >>= fun items => joinTail z items) _ _ s
  refine wpAny_bind (wpAny_tryCatch (iter_rs hit ?_))
  refine wpAny_bind (collect_rs (A := A.in1) hh hz hx0 hit fun s' acc hm hacc => ?_)
  have sa : StrsAre acc.toList (x.cps.toList.reverse.map fun c => (⟨#[c]⟩ : Str)) := strs_rev x.cps.size x.cps.toList acc.toList (by simp) (by rw [Array.length_toList]; exact hacc.1) fun i v hv => by
    obtain ⟨c, u, h1, h2⟩ := hacc.2 i v (by rw [← Array.getElem?_toList]; exact hv)
    exact ⟨c, u, by rw [Array.getElem?_toList]; exact h1, h2⟩
  obtain ⟨l, hl, ht⟩ := strsAre_values sa
  have hq2 : ∀ t' k, Q (.str ⟨x.cps.toList.reverse.toArray⟩ t') { s' with toks := k } := fun t' k => by
    rw [Moved.eq_with hm]
    exact hq s'.heap t' k fun b o hb e => hm.heap b o (fun hmem => hb (List.mem_singleton.mp hmem)) e
  have jn : Txt.join z (x.cps.toList.reverse.map fun c => (⟨#[c]⟩ : Str)) = ⟨x.cps.toList.reverse.toArray⟩ := by
    subst hz0
    exact join_one x.cps.toList.reverse
  rw [← jn, ← ht] at hq2
  rw [hl]
  have hok : ((l.map (·.1)).map (·.length)).sum + (l.map (·.1)).length * z.length ≤ 16777216 := by
    rw [ht, hz0, List.length_map, List.length_reverse, Array.length_toList, List.map_map]
    have : ∀ ys : List Nat, (ys.map ((fun s : Str => s.length) ∘ fun c => (⟨#[c]⟩ : Str))).sum = ys.length := fun ys => by
      induction ys with
      | nil => rfl
      | cons y r ih => rw [List.map_cons, List.sum_cons, ih, List.length_cons]; show 1 + r.length = _; omega
    rw [this, List.length_reverse, Array.length_toList]
    show x.cps.size + x.cps.size * 0 ≤ _
    omega
  have hok' := joinOk_of hok
  unfold JoinOk at hok'
  rw [Bool.not_eq_true'] at hok'
  have g : Gives (joinTail z (strValues l)) (joinMade z l) := by
    have g0 := gives_joinTail z l hok'
    cases l with
    | nil => exact g0
    | cons p r => cases r with
      | nil => exact g0
      | cons q r' => exact g0
  exact g prog w A (wants Q E) s' (post_join l ⟨joinFit_length hok', hq2⟩)
end
/-- "".join(reversed(x)) -/
def tJoinRev (te : TE) : TE := fun σ H Q => te σ H fun v H1 => ∃ x, v = .str x ∧ x.length ≤ sizeLine ∧ x.cps.size ≠ 0 ∧ Q (.str ⟨x.cps.toList.reverse.toArray⟩) H1
section
variable {X : Cx} {c : Lv} {e a : Expr} {f : Ev} {te : TE} {pos p pos2 apos cp : Pos} {j : Nat} {z : Str} {y : Str}
theorem pe_joinRev (hc : X.calm = true) (hz0 : z = ⟨#[]⟩) (hg : Gl X "reversed") (hm : X.mg "reversed" = none) (he : PE X e te)
    (hs1 : starEach [.Call (.Name "reversed" p) [e] [] pos2] X.env = [(false, eval (.Call (.Name "reversed" p) [e] [] pos2) X.env)] := by rfl)
    (hs : starEach [e] X.env = (false, eval e X.env) :: starEach [] X.env := by rfl)
    (hbase : attributeBase (.Constant (.str z) j cp) "join" X.env (eval (.Constant (.str z) j cp) X.env) = eval (.Constant (.str z) j cp) X.env := by rfl) (hline : (apos.endLine == pos.line) = true := by rfl) :
    PE X (.Call (.Attribute (.Constant (.str z) j cp) "join" apos) [.Call (.Name "reversed" p) [e] [] pos2] [] pos) (tJoinRev te) := by
  refine ⟨fun pins s σ H Q I h => ?_⟩
  have h0 : tC (.str z) σ H fun x H1 => x = .str z ∧ H1 = H := ⟨rfl, rfl⟩
  refine PySem.Call_method1 hbase hs1 hline (thn ((pe_str (X := X) (x := z) (j := j) (pos := cp)).run pins s σ H _ I h0) fun v s1 ⟨x, H1, I1, r1, q1⟩ => ?_)
  obtain ⟨rfl, rfl⟩ := q1
  obtain ⟨tz, rfl⟩ := _root_.id r1
  refine ⟨"str", _, F.plainAttrs_str, F.slot_str_join, F.type_str_join, typeIs_str _ _ _, (fun _ e => nomatch e), Calls.callWith_builtin rfl (Calls.evalArgs_plain (Calls.spliced_cons ?_))⟩
  refine Call_ (ld_blt I1 hg hm PyProof.Rows.boot_reversed (PyProof.Rows.callWith_type1 (args_cons (thn (he.run pins s1 σ H1 _ I1 h) fun u s2 ⟨v, H2, I2, r2, q2⟩ => args_nil ?_) hs) hs rfl))
  obtain ⟨y, ey, hz, hx0, q⟩ := q2
  subst ey
  obtain ⟨t, rfl⟩ := r2
  have hn := line63
  have hsz : y.cps.size ≤ 16777216 := by rw [sizeLine_eq] at hz; exact hz
  refine call_reversed_str (fun A E Q k => P.len_str (by omega) k) ?_
  refine Calls.spliced_nil ?_
  have k0 : ∀ b o, s2.heap.get? b = some o → (s2.heap.push (rsObj (.str y t) ((y.length : Int) - 1))).get? b = some o := fun b o e => Heap.get?_push_of_some _ e
  refine join_rs (s := { s2 with heap := s2.heap.push (rsObj (.str y t) ((y.length : Int) - 1)), toks := s2.toks + 1 + 1 }) (it := s2.heap.objs.size) (I2.ok.hd hc) hz hx0 ⟨_, Heap.get?_push_size _ rfl, rfl, rfl⟩ hz0 hsz fun h' t' k hk => ?_
  have I3 : Inv X pins σ H2 { s2 with heap := h', toks := k } := I2.kept (t' := k) fun b o e => hk b o (Nat.ne_of_lt (Heap.lt_size e)) (k0 b o e)
  exact ⟨.str _, H2, I3, ⟨t', rfl⟩, q⟩
theorem re_joinRev (hc : X.calm = true) (hz0 : z = ⟨#[]⟩) (hg : Gl X "reversed") (hm : X.mg "reversed" = none) (he : PE X e (tE X.K c f))
    (hs1 : starEach [.Call (.Name "reversed" p) [e] [] pos2] X.env = [(false, eval (.Call (.Name "reversed" p) [e] [] pos2) X.env)] := by rfl)
    (hs : starEach [e] X.env = (false, eval e X.env) :: starEach [] X.env := by rfl)
    (hbase : attributeBase (.Constant (.str z) j cp) "join" X.env (eval (.Constant (.str z) j cp) X.env) = eval (.Constant (.str z) j cp) X.env := by rfl) (hline : (apos.endLine == pos.line) = true := by rfl) :
    PE X (.Call (.Attribute (.Constant (.str z) j cp) "join" apos) [.Call (.Name "reversed" p) [e] [] pos2] [] pos) (tE X.K c (e1 opJRev f)) :=
  PE_imp (pe_joinRev hc hz0 hg hm he hs1 hs hbase hline) fun σ H Q q => by
    obtain ⟨π, ρ, G, S, k⟩ := q
    refine ⟨π, ρ, G, S, (Po.bind k).mono fun d1 ρ1 G1 H1 s1 e1' S1 k1 w1 r1 => ?_⟩
    cases d1 <;> first | exact False.elim k1 | skip
    rename_i s
    simp only [opJRev] at k1
    split at k1
    · rename_i hl
      cases r1
      refine ⟨ofL s, rfl, by rw [ofL_len, ← line_eq]; exact hl.2, by have : (ofL s).cps.size = s.length := ofL_len s; omega, ?_⟩
      rw [ofL_cps]
      exact k1.now S1 _ (.str s.reverse)
    · exact False.elim k1
theorem ints_vals2 {K : PySem.W.Frag} {G : Hp} : ∀ {ds : List D} {vs : List V} {ns : List Int}, Reps K G vs ds → intsD ds = some ns → vs = ns.map V.int
  | [], _, _, h, e => by
    cases h
    obtain rfl := Option.some.inj e
    rfl
  | d :: ds, _, ns, h, e => by
    cases h with
    | cons h1 h2 =>
      cases d <;> first | cases e | skip
      rename_i i
      simp only [intsD] at e
      cases z : intsD ds with
      | none => rw [z] at e; cases e
      | some ms =>
        rw [z] at e
        obtain rfl := Option.some.inj e
        cases h1
        rw [ints_vals2 h2 z]; rfl
theorem reps_ints {K : PySem.W.Frag} {G : Hp} : ∀ ns : List Int, Reps K G (ns.map V.int) (ns.map D.int)
  | [] => .nil
  | n :: r => .cons (.int n) (reps_ints r)
theorem sort_uniq {ns ms : List Int} (h : ms.Perm ns) (p : ms.Pairwise (· ≤ ·)) : ms = sortI ns := by
  refine List.Perm.eq_of_pairwise (le := fun a b => a ≤ b) (fun a b _ _ h1 h2 => Int.le_antisymm h1 h2) p ?_ (h.trans (List.mergeSort_perm _ _).symm)
  have := List.pairwise_mergeSort (le := fun a b : Int => decide (a ≤ b)) (fun a b c h1 h2 => by simp at *; omega) (fun a b => by simp; omega) ns
  exact this.imp fun h => by simpa using h
theorem cd_sorted : CallD1 X (.builtin "sorted") opSorted := by
  refine ⟨fun {G H x a d Q} s ra e h => ?_⟩
  cases ra with
  | lst h1 h2 =>
    simp only [opSorted] at e
    rw [Option.map_eq_some_iff] at e
    obtain ⟨ns, e1, e2⟩ := e
    subst e2
    have ev := ints_vals2 h2 e1
    subst ev
    refine rUC_of cr_sortedI ⟨_, ns, rfl, SqL.of (s _ _ h1), fun ms p hp hs hn => ?_⟩
    have := sort_uniq hp hs
    subst this
    exact h.lst s (reps_ints _) p hn
  | _ => simp [opSorted] at e
end
end NV

set_option Elab.async false
set_option linter.all false
set_option maxRecDepth 100000
set_option maxHeartbeats 4000000
/-! Lay33: a def called without arguments. -/
namespace NV
open PySem PySem.Spec PyProof.Rows L2
section
variable {X : Cx} {c : Lv} {e : Expr} {es : List Expr} {fs : Ea} {pos p : Pos} {x : Str} {s : Df} {n k : Nat} {f : Addr} {fd : FuncData} {ps : List Str}
theorem pe_callS0 {sp : Sp} {E : St → XK} (F : FnOk X.prog X.w X.K X.mg X.base (L2.CX X.prog X.w) k f fd ps sp) (hr : Room k X.A) (hg : Gl X x) (hm : X.mg x = some (.ref f)) (hk : PySem.W.keepIn X.K (.ref f) = true) (hb : Binds X.K fd ps []) (hx : ∀ σ, PassesAt (L2.CX X.prog X.w) X σ (E σ))
    (hdb : (x == ("__debug__" : Str)) = false := by decide) : PE X (.Call (.Name x p) [] [] pos) (tCallS sp E tNil) := by
  refine ⟨fun pins s σ H Q I h => ?_⟩
  refine wpAny_Call_Name_kw (ld_glob I hg hm ?_ hdb)
  exact PySem.W.callWith_K0 I.kIn hk (run_fnS (us := []) F hr hb (hx σ) I .nil h)
theorem pe_callSA0 {sp : Sp} {E : St → XK} (F : FnOk X.prog X.w X.K X.mg X.base (L2.CX X.prog X.w) k f fd ps sp) (hr : Room k X.A) (hg : Gl X x) (hm : X.mg x = some (.ref f)) (hk : PySem.W.keepIn X.K (.ref f) = true) (hb : Binds X.K fd ps []) (hx : ∀ σ, PassesAt (L2.CX X.prog X.w) X σ (E σ))
    (hdb : (x == ("__debug__" : Str)) = false := by decide) : PE X (.Call (.Name x p) [] [] pos) (tCallS sp E (tA X.K c aNil)) := PE_imp (pe_callS0 F hr hg hm hk hb hx hdb) fun σ H Q q => by
  obtain ⟨π, ρ, G, S, k⟩ := q
  exact k.now S [] .nil
theorem ro_call0 (F : FnOk X.prog X.w X.K X.mg X.base (L2.CX X.prog X.w) k f fd ps (spD X.K c.Z n s)) (hn : ∀ as, s as ≠ .st → as.length = n) (hr : Room k X.A) (hg : Gl X x) (hm : X.mg x = some (.ref f)) (hk : PySem.W.keepIn X.K (.ref f) = true) (hb : Binds X.K fd ps []) (tk : Takes X c.W)
    (hdb : (x == ("__debug__" : Str)) = false := by decide) :
    PE X (.Call (.Name x p) [] [] pos) (tO X.K c (eCall s aNil)) := PE_imp (pe_callSA0 F hr hg hm hk hb (fun σ => passAt tk σ) hdb) fun σ H Q q => by
  obtain ⟨π, ρ, G, S, k⟩ := q
  refine ⟨π, ρ, G, S, (Po.bind k).mono fun ds ρ1 G1 H1 s1 e1 S1 k1 vs r => ?_⟩
  have SC := SE.args S1.sub r π
  have hlen : s (ds.map .v) ≠ .st → vs.length = n := fun z => by
    have := hn _ z
    rw [List.length_map] at this
    rw [r.length, this]
  cases z : s (ds.map Sl.v) with
  | ok rr as' =>
    simp only [z] at k1
    refine ⟨hlen (by rw [z]; exact fun q => by cases q), π, _, G1, SC, ?_⟩
    rw [z]
    intro G' H' s' e' S' w q
    obtain ⟨S2, e2⟩ := S1.after s' S'.sub fun b o hb => by
      obtain ⟨a1, _, a3⟩ := e' b o hb noOwn_v
      exact ⟨a1, a3⟩
    refine k1 G' H' s' e2 S2 w ?_
    cases rr with
    | v d => exact q
    | o d =>
      obtain ⟨pp, rfl, q1, q2, q3, q4⟩ := q
      have h1 : H1 pp = none := q4.resolve_right noOwn_v
      refine ⟨pp, rfl, q1, q2, fun z => ?_, ?_⟩
      · obtain ⟨_, o, ho⟩ := S1.own z
        rw [h1] at ho; cases ho
      · cases zz : H pp with
        | none => exact .inl rfl
        | some o =>
          by_cases m : Ownd ρ σ pp
          · exact .inr m
          · have := (e1 pp o zz m).1
            rw [h1] at this; cases this
    | un => exact False.elim q
    | io _ _ => exact False.elim q
  | rz xx as' =>
    simp only [z] at k1
    refine ⟨hlen (by rw [z]; exact fun q => by cases q), π, _, G1, SC, ?_⟩
    rw [z]
    intro cls d G' H' s' e' S' hz
    obtain ⟨S2, e2⟩ := S1.after s' S'.sub fun b o hb => by
      obtain ⟨a1, _, a3⟩ := e' b o hb noOwn_v
      exact ⟨a1, a3⟩
    exact k1 cls d G' H' s' e2 S2 hz
  | st => simp only [z] at k1; exact False.elim k1
end
end NV

set_option Elab.async false
set_option linter.all false
set_option maxRecDepth 100000
set_option maxHeartbeats 4000000
/-! Lay34: text.split(sign), list.insert. -/
namespace NV
open PySem PySem.Spec PyProof.Rows L2
theorem pre_one (c x : Nat) (r : List Nat) : TL.pre [c] (x :: r) = true ↔ x = c := by
  simp [TL.pre]
theorem spl_D (c : Nat) : ∀ (s acc : List Nat), TL.spl [c] 0 acc s = splD c acc s
  | [], acc => TL.spl_nil _ _ _
  | x :: r, acc => by
    show (if TL.pre [c] (x :: r) = true then acc :: TL.spl [c] ([c].length - 1) [] r else TL.spl [c] 0 (acc ++ [x]) r) = if x = c then acc :: splD c [] r else splD c (acc ++ [x]) r
    by_cases h : x = c
    · rw [if_pos ((pre_one c x r).mpr h), if_pos h]
      exact congrArg _ (spl_D c r [])
    · rw [if_neg (fun z => h ((pre_one c x r).mp z)), if_neg h]
      exact spl_D c r _
theorem split_ofL (s : List Nat) (c : Nat) (hc : c < 256) : Txt.split (ofL s) (ofL [c]) = (splD c [] s).map ofL := by
  have h := TL.split_spl (ofL s) (ofL [c]) (by show (ofL [c]).cps.toList ≠ []; rw [ofL_cps]; simp) (TL.kind_ok (by show (#[c] : Array Nat).all (· < 256) = true; simp [hc]))
  have e1 : TL.tl (ofL [c]) = [c] := ofL_cps _
  have e2 : TL.tl (ofL s) = s := ofL_cps _
  rw [e1, e2, spl_D] at h
  rw [← h, List.map_map]
  have : (ofL ∘ TL.tl) = id := by
    funext z
    exact (str_ofL z).symm
  rw [this, List.map_id]
section
variable {X : Cx} {c : Lv} {a b e : Expr} {es : List Expr} {f h l : Ev} {r : Ea} {pos p apos cpos pos' tpos : Pos} {x : Str}
theorem reps_strs {K : PySem.W.Frag} {H : Hp} : ∀ ys : List (List Nat), Reps K H ((ys.map ofL).map V.str) (ys.map D.str)
  | [] => .nil
  | y :: r => .cons (.str y) (reps_strs r)
theorem md_split : MtD1 X "str.split" opSplit := by
  refine ⟨fun {G H x y a b d Q} s ra rb e h => ?_⟩
  cases ra with
  | str z =>
    cases rb with
    | str w =>
      match w, e with
      | [c], e =>
        simp only [opSplit] at e
        split at e
        · rename_i hz
          obtain rfl := Option.some.inj e
          refine rUM_of mt_split ⟨ofL z, ofL [c], rfl, rfl, by rw [ofL_len]; rfl, by rw [ofL_len, ← line_eq]; exact hz.1, ?_⟩
          rw [split_ofL z c hz.2]
          exact h.lst s (reps_strs _)
        · cases e
    | _ => simp [opSplit] at e
  | _ => simp [opSplit] at e
theorem walk_zipT {K : PySem.W.Frag} {a b : Addr} {xs ys : List V} {n : Nat} (hn : n = min xs.length ys.length) : L2.Walk (RZ.ItzT K a b) n (fun H => SqT K H a xs ∧ SqT K H b ys) (YPair (fun i => xs[i]?) (fun i => ys[i]?)) := by
  subst hn
  refine ⟨fun i _ hi q => ?_, fun _ q => ⟨xs, ys, q.1, q.2, by omega⟩, fun i H v H' _ q y => ?_⟩
  · have h1 : i < xs.length := by omega
    have h2 : i < ys.length := by omega
    exact ⟨xs, ys, xs[i], ys[i], q.1, q.2, by simp [h1], by simp [h2]⟩
  · obtain ⟨T, x, z, h1, h2, h3, h4, h5⟩ := y
    exact ⟨T, x, z, h1, h2, h3, h4 xs q.1, h5 ys q.2⟩
theorem itok_zipT {K : PySem.W.Frag} {G : Hp} {a b : Addr} {items jtems : List D} {xs ys : List V} (hq : SqT K G a xs) (r : Reps K G xs items) (hq' : SqT K G b ys) (r' : Reps K G ys jtems) : ItOk K (RZ.ItzT K a b) G (List.zipWith (fun x y => D.tup [x, y]) items jtems) := by
  refine itok_pair (n := min xs.length ys.length) (by rw [List.length_zipWith, r.length, r'.length]) (walk_zipT rfl) (fun H s => ⟨Same.tupS s hq, Same.tupS s hq'⟩) fun i x y e1 e2 => ?_
  obtain ⟨d, hd, rd⟩ := r.getV e1
  obtain ⟨e, he, re⟩ := r'.getV e2
  exact ⟨d, e, by simp [List.getElem?_zipWith, hd, he], rd, re⟩
theorem ri_zipT {elts : List Expr} {kk : Nat} {tpos : Pos} (hg : Gl X "zip") (hm : X.mg "zip" = none) (ha : PE X a (tE X.K c f)) (hb : PE X b (tE X.K c h)) (hs : starEach [a, b] X.env = (false, eval a X.env) :: starEach [b] X.env := by rfl) (hs2 : starEach [b] X.env = (false, eval b X.env) :: starEach [] X.env := by rfl) (hpl : (backTo pos (starEach [b] X.env)).any (·.1) = false := by rfl) :
    PI X (.Tuple elts kk tpos) (.Call (.Name "zip" p) [a, b] [] pos) (tI X.K c (NV.iZipT f h)) := ⟨fun pins s σ H R I q => by
  obtain ⟨π, ρ, G, S, k⟩ := q
  refine (RZ.pi_zipA hg hm (pa_cons ha (pa_cons hb pa_nil hs2) hs) hs hpl).run pins s σ H R I ⟨π, ρ, G, S, (Po.bind k).mono fun d1 ρ1 G1 H1 _ _ S1 k1 w1 r1 => ⟨π, ρ1, G1, S1, (Po.bind k1).mono fun d2 ρ2 G2 H2 s2 _ S2 k2 w2 r2 => ?_⟩⟩
  cases d1 <;> cases d2 <;> first | exact False.elim k2 | skip
  · cases r1 with
    | tup h1 h2 =>
      cases r2 with
      | tup h3 h4 => exact ⟨_, _, _, _, rfl, .inr ⟨Same.tupS S2.sub (Same.tupS s2 h1), Same.tupS S2.sub h3, k2.now S2 _ (itok_zipT (Same.tupS s2 h1) (Reps.mono s2 _ _ h2) h3 h4)⟩⟩
  · cases r1 with
    | lst h1 h2 =>
      cases r2 with
      | lst h3 h4 => exact ⟨_, _, _, _, rfl, .inl ⟨SqL.of (S2.sub _ _ (s2 _ _ h1)), SqL.of (S2.sub _ _ h3), k2.now S2 _ (itok_zip (SqL.of (s2 _ _ h1)) (Reps.mono s2 _ _ h2) (SqL.of h3) h4)⟩⟩⟩
/-- xs.insert(a, e) -/
theorem rs_insert (i : Nat) (hN : X.N[i]? = some x) (hv : Vis X.env.scope x) (ha : PE X a (tE X.K c h)) (he : PE X e (tE X.K c f)) (hs : starEach [a, e] X.env = (false, eval a X.env) :: starEach [e] X.env := by rfl) (hs2 : starEach [e] X.env = (false, eval e X.env) :: starEach [] X.env := by rfl)
    (hfew : ((backTo cpos (starEach [a, e] X.env)).all (fun x => !x.1) && (backToKw cpos (keywordEach [] X.env)).all (fun x => x.1.isSome) && decide ([a, e].length + ([] : List Keyword).length + (if ([] : List Keyword).isEmpty then 0 else 1) < 30)) = true := by rfl)
    (hpl : (backTo cpos (starEach [e] X.env)).any (·.1) = false := by rfl)
    (hline : (apos.endLine == cpos.line) = true := by rfl) (hsw : swapsWith (.Call (.Attribute (.Name x p) "insert" apos) [a, e] [] cpos) none pos.line X.env = pure false := by rfl) (hd : (x == ("__debug__" : Str)) = false := by decide) (hcd : (x == ("__classdict__" : Str)) = false := by decide)
    (hbase : attributeBase (.Name x p) "insert" X.env (eval (.Name x p) X.env) = eval (.Name x p) X.env := by rfl) :
    PS X (.Expr (.Call (.Attribute (.Name x p) "insert" apos) [a, e] [] cpos) pos) (tS X.K c (sInsert i h f)) :=
  PS_imp (ps_expr (pe_bm PySem.F.plainAttrs_list PySem.F.slot_list_insert PySem.F.type_list_insert mt_insert (pe_var hN hv hd hcd) (pa_cons ha (pa_cons he pa_nil hs2) hs) hbase hfew hline hs hpl) hsw) fun D σ H q => by
    obtain ⟨π, ρ, G, S, k⟩ := q
    unfold sInsert at k
    by_cases hO : isO ρ i = true
    · rw [if_pos hO] at k
      obtain ⟨pa, xs, ws, h1, h2, h3, h4, h5⟩ := isO_of S hO
      refine ⟨.ref pa, h2, .inl ⟨rfl, _, SqL.of h4⟩, π, ρ, G, S, (PoS.bind k).mono fun d0 ρ0 G0 H0 _ _ S0 k0 w0 r0 => ?_⟩
      refine ⟨π, ρ0, G0, S0, (PoS.bind k0).mono fun d1 ρ1 G1 H1 _ _ S1 k1 w1 r1 => ?_⟩
      cases r0 with
      | int j =>
        obtain ⟨s, d, d', p', a1, a2, a3, a4, a5, a6, a7⟩ := chg_of S1 k1
        have ep : p' = pa := by rw [h2] at a4; exact (V.ref.inj (Option.some.inj (Option.some.inj a4))).symm
        subst ep
        cases d with
        | lst ys =>
          simp only [hInsert] at a3
          split at a3
          · rename_i hl
            obtain rfl := Option.some.inj a3
            obtain ⟨vs, b1, b2⟩ := a6
            refine ⟨p', vs, j, w1, rfl, rfl, b1, by rw [b2.length, ← line_eq]; exact hl.1, hl.2.1, hl.2.2, a7 _ ⟨_, upd_same, ?_⟩⟩
            exact ((b2.take _).append (.cons r1 .nil)).append (b2.drop _)
          · cases a3
        | _ => simp [hInsert] at a3
      | _ => exact False.elim k1
    · rw [if_neg hO] at k; exact False.elim k
end
end NV

set_option Elab.async false
set_option linter.all false
set_option maxRecDepth 100000
set_option maxHeartbeats 4000000
/-! Lay35: an own dict locked; its keys, in, len; texts in order; try without a name. -/
namespace NV
open PySem PySem.Spec PyProof.Rows L2
section
variable {K : PySem.W.Frag} {π : Nat → Addr} {ρ : Env} {G : Hp} {σ : St} {H : Hp}
theorem SE.lck (S : SE K π ρ G σ H) {i : Nat} {es : List (List Nat × D)} {p : Addr} {kvs : List (Key × V)} (e : ρ[i]? = some (.o (.dct es))) (hp : σ[i]? = some (some (.ref p))) (gp : G p = none) (hH : H p = some (.dK kvs)) (r : RepK K G kvs es) (od : Obj) :
    Same G (upd G p (.frz od (.dK kvs))) ∧ SE K π (ρ.set i (.v (.obj 0 es))) (upd G p (.frz od (.dK kvs))) σ (upd H p (.frz od (.dK kvs))) ∧ Ext ρ σ G H (ρ.set i (.v (.obj 0 es))) σ (upd G p (.frz od (.dK kvs))) (upd H p (.frz od (.dK kvs))) := by
  have sG : Same G (upd G p (.frz od (.dK kvs))) := Same.new gp
  have op : Ownd ρ σ p := ⟨i, _, e, rfl, hp⟩
  have oth : ∀ {j : Nat} {t : Sl} {b : Addr}, j ≠ i → ρ[j]? = some t → t.owned = true → σ[j]? = some (some (.ref b)) → b ≠ p := fun {j t b} n h o hb z => n (S.inj j i b t _ h e o rfl hb (by rw [z]; exact hp))
  have back : ∀ {j : Nat} {t : Sl}, (ρ.set i (.v (.obj 0 es)))[j]? = some t → t.owned = true → j ≠ i ∧ ρ[j]? = some t := fun {j t} h o => by
    rcases getset h with ⟨_, _, rfl⟩ | ⟨n, h⟩
    · cases o
    · exact ⟨n, h⟩
  refine ⟨sG, ⟨fun b x hb => ?_, by rw [List.length_set]; exact S.len, fun j t h => ?_, fun j k b t u h1 h2 o1 o2 q1 q2 => ?_⟩, fun b x hb n => ?_⟩
  · by_cases z : b = p
    · subst z
      rw [upd_same] at hb ⊢
      exact hb
    · rw [upd_ne z] at hb ⊢
      exact S.sub _ _ hb
  · rcases getset h with ⟨rfl, _, rfl⟩ | ⟨n, h⟩
    · exact ⟨.ref p, hp, .lck upd_same (RepK.mono sG _ _ r)⟩
    · have k := S.ok j t h
      cases t with
      | un => trivial
      | v d =>
        obtain ⟨w, e1, r1⟩ := k
        exact ⟨w, e1, r1.mono sG _⟩
      | o d =>
        obtain ⟨q, e1, g1, o1⟩ := k
        have ne := oth n h rfl e1
        exact ⟨q, e1, by rw [upd_ne ne]; exact g1, o1.mono sG (upd_ne ne)⟩
      | io m d =>
        obtain ⟨e1, g1, o1⟩ := k
        have ne := oth n h rfl e1
        exact ⟨e1, by rw [upd_ne ne]; exact g1, o1.mono sG (upd_ne ne)⟩
  · obtain ⟨_, h1⟩ := back h1 o1
    obtain ⟨_, h2⟩ := back h2 o2
    exact S.inj j k b t u h1 h2 o1 o2 q1 q2
  · have ne : b ≠ p := fun z => n (by rw [z]; exact op)
    refine ⟨by rw [upd_ne ne]; exact hb, fun ⟨j, t, h, o, q⟩ => ?_, fun z => by rw [upd_ne ne]; exact z⟩
    obtain ⟨_, h⟩ := back h o
    exact n ⟨j, t, h, o, q⟩
end
section
variable {X : Cx} {c : Lv} {a b e tg : Expr} {es : List Expr} {f h l : Ev} {r : Ea} {pos p apos cpos pos' tpos : Pos} {x : Str}
theorem re_lck (i : Nat) (he : PE X e (tE X.K c f)) : PE X e (tE X.K c (eLck i f)) := ⟨fun pins s σ H Q I q => by
  obtain ⟨π, ρ, G, S, k⟩ := q
  unfold eLck lck1 at k
  split at k
  · rename_i es z
    obtain ⟨pa, h1, h2, ws, h3, h4⟩ := S.at_own z (.inl rfl)
    obtain ⟨od, I1⟩ := I.lock h3 trivial
    obtain ⟨s1, S1, e1⟩ := S.lck z h1 h2 h3 h4 od
    exact he.run pins s σ _ Q I1 ⟨π, _, _, S1, Po.step s1 e1 k⟩
  · exact he.run pins s σ H Q I ⟨π, ρ, G, S, k⟩⟩
theorem rt_lck (i : Nat) (he : PT X e (tT X.K c f)) : PT X e (tT X.K c (eLck i f)) := ⟨fun pins s σ H Q I q => by
  obtain ⟨π, ρ, G, S, k⟩ := q
  unfold eLck lck1 at k
  split at k
  · rename_i es z
    obtain ⟨pa, h1, h2, ws, h3, h4⟩ := S.at_own z (.inl rfl)
    obtain ⟨od, I1⟩ := I.lock h3 trivial
    obtain ⟨s1, S1, e1⟩ := S.lck z h1 h2 h3 h4 od
    exact he.run pins s σ _ Q I1 ⟨π, _, _, S1, Po.step s1 e1 k⟩
  · exact he.run pins s σ H Q I ⟨π, ρ, G, S, k⟩⟩
theorem repK_get {K : PySem.W.Frag} {H : Hp} : ∀ {es : List (List Nat × D)} {kvs : List (Key × V)} {i : Nat} {k : Key} {v : V}, RepK K H kvs es → kvs[i]? = some (k, v) → ∃ z d, es[i]? = some (z, d) ∧ k = .inr (ofL z)
  | [], _, _, _, _, h, e => by cases h; simp at e
  | (z, d) :: es, _, 0, k, v, h, e => by
    cases h with
    | cons h1 h2 =>
      simp only [List.getElem?_cons_zero, Option.some.injEq, Prod.mk.injEq] at e
      exact ⟨z, d, rfl, e.1.symm⟩
  | (z, d) :: es, _, i + 1, k, v, h, e => by
    cases h with
    | cons h1 h2 =>
      obtain ⟨z', d', h3, h4⟩ := repK_get (i := i) h2 (by simpa using e)
      exact ⟨z', d', by simpa using h3, h4⟩
theorem itok_keys {K : PySem.W.Frag} {G : Hp} {d : Addr} {o : Obj} {kvs : List (Key × V)} {es : List (List Nat × D)} (hd : G d = some (.frz o (.dK kvs))) (r : RepK K G kvs es) : ItOk K (Itk d o kvs) G (es.map fun p => .str p.1) := by
  unfold ItOk
  rw [List.length_map, ← r.length]
  refine walk_keys.mono (fun H s => s _ _ hd) fun i H x H' hi g y => ?_
  obtain ⟨rfl, k, v, hk, rfl⟩ := y
  obtain ⟨z, d', h1, rfl⟩ := repK_get r hk
  exact ⟨.str z, by rw [List.getElem?_map, h1]; rfl, fun Gi s1 s2 => ⟨Gi, Grow.refl s2, .str z⟩⟩
theorem ri_keysL (he : PE X e (tE X.K c f)) : PI X tg e (tI X.K c (iKeysL f)) := ⟨fun pins s σ H R I q => by
  obtain ⟨π, ρ, G, S, k⟩ := q
  refine (pi_keys he).run pins s σ H R I ⟨π, ρ, G, S, (Po.bind k).mono fun d1 ρ1 G1 H1 _ _ S1 k1 w1 r1 => ?_⟩
  cases r1 with
  | lck h1 h2 => exact ⟨_, _, rfl, .inl ⟨_, S1.sub _ _ h1, k1.now S1 _ (itok_keys h1 h2)⟩⟩
  | _ => exact False.elim k1⟩
theorem opd_inL (hu : X.A.units + 1 < cLine) : OpD X (compareOp .In) opInL := by
  refine ⟨fun {G H x y a b d Q} s ra rb e h => ?_⟩
  cases rb with
  | @lck pd od kvs es h1 h2 =>
    cases ra with
    | str z =>
      obtain rfl := Option.some.inj e
      intro pins s' σ v u I rx ry
      obtain rfl : u = Value.ref _ := ry
      obtain ⟨v1, v2⟩ := valV_of (k := z) h2
      have g : DGet H pd (kV (.inr (ofL z))) (valV kvs (.inr (ofL z))) := .inl ⟨kvs, .inr (ofL z), .inr ⟨_, s _ _ h1⟩, rfl, rfl⟩
      refine d_in hu I g rx fun s3 I3 => ⟨.bl _, H, I3, rfl, ?_⟩
      cases hl : look z es with
      | none => rw [v1 hl]; have q := h.bl s; rw [hl] at q; exact q
      | some d' =>
        obtain ⟨w, e1, _⟩ := v2 _ hl
        rw [e1]; have q := h.bl s; rw [hl] at q; exact q
    | _ => simp [opInL] at e
  | _ => cases ra <;> simp [opInL] at e
theorem call_len_lck : CallR X (.builtin "len") (fun xs H Q => ∃ a kvs, xs = [.ref a] ∧ Rd H a (.dK kvs) ∧ Q (.int (kvs.length : Int)) H) := by
  intro pins s σ H xs us Q I rx q
  obtain ⟨a, kvs, rfl, hr, q⟩ := q
  obtain ⟨u, rfl, r1⟩ := rx.one
  obtain rfl : u = Value.ref a := r1
  exact d_len I hr fun t s' I' => ⟨.int (kvs.length : Int), H, I', ⟨t, rfl⟩, q⟩
theorem cd_lenL : CallD1 X (.builtin "len") opLenL := by
  refine ⟨fun {G H x a d Q} s ra e h => ?_⟩
  cases ra with
  | lck h1 h2 =>
    obtain rfl := Option.some.inj e
    refine rUC_of call_len_lck ⟨_, _, rfl, .inr ⟨_, s _ _ h1⟩, ?_⟩
    rw [h2.length]; exact h.int s
  | _ => simp [opLenL] at e
theorem op_ge_str : OpR X (compareOp .GtE) (fun x y H Q => ∃ i j, x = .str i ∧ y = .str j ∧ Q (.bl (!decide (i.cps.toList < j.cps.toList))) H) := by
  intro pins s σ H x y v u Q I rx ry h
  obtain ⟨i, j, rfl, rfl, q⟩ := h
  obtain ⟨t, rfl⟩ := rx
  obtain ⟨t', rfl⟩ := ry
  exact P.ge_str (fin_bl I q rfl)
theorem opd_geS : OpD X (compareOp .GtE) opGeS := by
  refine ⟨fun {G H x y a b d Q} s ra rb e h => ?_⟩
  cases a <;> cases b <;> first | (simp [opGeS] at e; done) | skip
  cases ra; cases rb
  obtain rfl := Option.some.inj e
  refine rU2_of op_ge_str ⟨_, _, rfl, rfl, ?_⟩
  rw [ofL_cps, ofL_cps]
  exact h.bl s
/-- {}, the def's own -/
theorem ro_dct0 : PE X (.Dict [] [] pos) (tO X.K c (own eDct0)) := PE_imp pe_dnewK fun σ H Q q => by
  obtain ⟨π, ρ, G, S, k⟩ := q
  intro p n
  have g := Grow.apart (o := .dK []) S.sub n
  obtain ⟨S2, e2⟩ := S.grow g
  have gn : G p = none := by
    cases z : G p with
    | none => rfl
    | some o => rw [S.sub _ _ z] at n; cases n
  have no : ¬ Ownd ρ σ p := fun z => by
    obtain ⟨_, o, ho⟩ := S.own z
    rw [n] at ho; cases ho
  exact k G _ (Same.refl _) e2 S2 (.ref p) ⟨p, rfl, gn, ⟨[], upd_same, .nil⟩, no, .inl n⟩
end
section
variable {X : Cx} {ks : List Nat} {x y : Str} {cv : Value} {body : List Stmt} {np pos pos' p1 p2 p3 : Pos} {kd : Nat} {W : WX} {B : Es}
theorem rs_tryN (j : Nat) (hs : X.stack = X.env :: X.outer) (hf : X.env.frame = some X.env.locals) (hN : X.N.Nodup) (hj : X.N[j]? = some y) (hly : Loc X.env.scope y) (hc : Names X x cv) (tk : Takes X W)
    (hex : ∀ k ∈ ks, ∀ C, ExcAt X.K k C → PySem.W.exmOne X.K (.ref C) cv = some true)
    (hb : ∀ (W : WX) (pn : List (Addr × Obj)) (xe : Value → Shared → Prop), Takes (X.tr pn xe) W → PassesOwn (model X.prog X.w) X.A X.env xe → PSs (X.tr pn xe) body (tS X.K ⟨ZX X.K ks, W⟩ B))
    (hsw : swapsWith (.Constant .none kd p2) (some (.Name y p1)) p3.line X.env = pure false := by rfl) (hfy : X.env.scope.names.lookup y = some .local := by rfl) :
    PS X (.Try body [.ExceptHandler (some (.Name x np)) none [.Assign [.Name y p1] (.Constant .none kd p2) p3] pos'] [] [] pos) (tS X.K ⟨ZX X.K ks, W⟩ (sTryN j B)) :=
  PS_imp (ps_try_only (tb := fun W => tS X.K ⟨ZX X.K ks, W⟩ B) (ts := fun _ _ _ => tS X.K ⟨ZX X.K ks, W⟩ (sSet j (eC .non))) hs hf hc tk hb fun a oe cls d pn hz hv => rss_one (rs_set j hN hj hly re_non hsw (.inr hfy))) fun D σ H q => by
    obtain ⟨π, ρ, G, S, k⟩ := q
    refine ⟨π, ρ, G, S, ?_⟩
    unfold sTryN at k
    cases z : B ρ with
    | st => rw [z] at k; exact k
    | ok fl ρ' =>
      rw [z] at k
      cases fl with
      | nx => exact k
      | brk => exact k
      | cnt => exact k
      | ret r => exact k
    | rz xx ρ' =>
      rw [z] at k
      intro cls d σ' G' H' s' e' S' hz
      obtain ⟨hk, C, vs, rfl, hC, hf2, hr⟩ := hz
      exact ⟨true, hex _ hk _ hC, fun _ a na => ⟨π, ρ', G', S', PoS.step s' e' k⟩, fun q => Bool.noConfusion q⟩
end
theorem hex7 {K : PySem.W.Frag} {mg : Str → Option Value} {ns : List Nat} {xA : Nat → Addr} (T : XT K mg [7] ns xA) (h : PySem.W.exmOne K (.ref (xA 7)) (.ref (xA 7)) = some true) : ∀ k ∈ [7], ∀ C, ExcAt K k C → PySem.W.exmOne K (.ref C) (.ref (xA 7)) = some true := fun k hk C hC => by
  have e := T.at' k hk
  rw [List.mem_singleton] at hk
  subst hk
  have e2 : (some (some (Value.ref (xA 7))) : Option (Option Value)) = some (some (.ref C)) := e.symm.trans hC
  cases e2
  exact h
end NV

set_option Elab.async false
set_option linter.all false
set_option maxRecDepth 100000
set_option maxHeartbeats 4000000
/-! Lay36: an own exception class with the field most, called as an expression: with one value, with none, by the field's name. -/
namespace PySem
namespace HandSPX
open Builtin Builtin.ObjectAttr
section
variable {M : Model} {A : Around} {E : Value → Shared → Prop} {h : Heap} {g : Array GenState} {d : Drawn} {t : Nat} {os : OsState}
variable {nm q : Str} {C N : Addr} {bs bm bmB : List Value} {hdct : Bool} {sn : List Str} {sub : List Value} {ab : Bool} {col : Option Bool} {dd : Option Addr} {k0 k1 k2 k3 k5 : Option Value} {B newId initId : String}
theorem nv_check_new (F : ExcBaseFacts B newId initId bmB) (hT : ∀ X : String, bm.contains (.type X) = bmB.contains (.type X)) {rest : List Value} {kw : List (Str × Value)} {Q : Unit → Shared → Prop}
    (hC : h.get? C = some (excClassObj nm q C N bs bm hdct sn sub ab col dd k0 k1 k2 k3 k5 newId)) (hq : Q () ⟨h, g, d, t, os⟩) : wpAny M A (checkBuiltinCall newId ⟨.ref C :: rest, kw⟩) Q E ⟨h, g, d, t, os⟩ := by
  have hcont : (Value.ref C :: bm).contains (.type B) = true := by rw [List.contains_cons, hT, F.hasB, Bool.or_true]
  have hstar := F.noStar
  simp only [checkBuiltinCall, F.newKind, F.newSplit, F.newRow]
  repeat (first | refine wpAny_loadPart_at hC ?_ | (refine wpAny_isSubtype_exc hC ?_; rw [hcont]) | refine wpAny_staticBase_exc hC ?_ | refine wpAny_madeBy_exc hC ?_ | simp only [bne_self_eq_false, Bool.false_eq_true, if_false] | wp_step)
  exact hq
end
section
variable {prog : Program} {w : World} {A : Around} {E : Value → Shared → Prop} {R : Result → Shared → Prop} {h : Heap} {g : Array GenState} {d : Drawn} {t : Nat} {os : OsState}
variable {nm q : Str} {C N : Addr} {bs bm bmB : List Value} {hdct : Bool} {sn : List Str} {sub : List Value} {ab : Bool} {col : Option Bool} {dd : Option Addr} {k0 k1 k2 k3 k5 : Option Value} {B newId initId : String}
theorem nv_new (F : ExcBaseFacts B newId initId bmB) (hT : ∀ X : String, bm.contains (.type X) = bmB.contains (.type X)) {rest : List Value} {kw : List (Str × Value)}
    (hC : h.get? C = some (excClassObj nm q C N bs bm hdct sn sub ab col dd k0 k1 k2 k3 k5 newId))
    (hq : R (.ok (.ret (.ref (h.objs.size + 1)))) ⟨(h.push { cls := .type "tuple", data := .seq rest.toArray }).push
      { cls := .ref C, data := .fields #[.ref h.objs.size, .none, .none, .none, .bool false, .none] }, g, d, t, os⟩) (hrest : rest.length ≤ sizeLine) :
    codeAny (model prog w) A (.builtin newId ⟨.ref C :: rest, kw⟩) R ⟨h, g, d, t, os⟩ := by
  have hends := F.ends
  have hcB : (Value.ref C :: bm).contains (.type B) = true := by rw [List.contains_cons, hT, F.hasB, Bool.or_true]
  have hcA : (Value.ref C :: bm).contains (.type "AttributeError") = false := by rw [List.contains_cons, hT, F.noAttr]; rfl
  have hcN : (Value.ref C :: bm).contains (.type "NameError") = false := by rw [List.contains_cons, hT, F.noName]; rfl
  refine codeAny_builtinAt F.entry ?_
  unfold Builtin.«BaseException.__new__»
  refine wpAt_bind ?_
  show wpAt _ _ _ (stack >>= _) _ _ _
  refine wpAt_bind (wpAt_stack fun p below => wpAt_of_wpAny ?_)
  wp_walk
  refine wpAt_of_wpAny ?_
  rw [F.owner]
  repeat (first | with_reducible refine wpAny_madeHere_exc F.canon hC ?_ | with_reducible refine wpAny_loadPart_at hC ?_ | (with_reducible refine wpAny_isSubtype_exc hC ?_; first | rw [hcB] | rw [hcA] | rw [hcN]) | wp_step)
  show R _ _
  rw [Heap.size_push]
  exact hq
theorem nv_type_call (F : ExcBaseFacts B newId initId bmB) (hT : ∀ X : String, bm.contains (.type X) = bmB.contains (.type X)) {rest : List Value} {kw : List (Str × Value)} {fI : Addr} {Q : Fin → Shared → Prop}
    (hC : h.get? C = some (excClassObj nm q C N bs bm hdct sn sub ab col dd k0 k1 k2 k3 k5 newId))
    (hi : W.Looks (model prog w) h (typeLookup (.ref C) "__init__") (some (.ref fI))) (hb : ∀ self, W.Looks (model prog w) h (bindSpecial (.ref fI) self) (.ref fI, [self])) (hrest : rest.length ≤ sizeLine)
    (hq : codeAny (model prog w) A (.call (.ref fI) ⟨.ref (h.objs.size + 1) :: rest, kw⟩)
      (fun r s' => match r with | .ok (.ret v) => v = .none ∧ Q (.done (.ret (.ref (h.objs.size + 1)))) s' | .ok _ => False | .error e => E e s')
      ⟨(h.push (W.kdv_tup rest)).push (excO C h.objs.size), g, d, t, os⟩) :
    wpAny (model prog w) A (Builtin.«type.__call__» ⟨.ref C :: rest, kw⟩) Q E ⟨h, g, d, t, os⟩ := by
  repeat (first | with_reducible refine wpAny_loadPart_at hC ?_ | with_reducible refine wpAny_madeBy_exc hC ?_ | wp_step)
  refine codeAny_call_builtin_code (Code.quiet_builtin _ F.quiet) (nv_check_new F hT hC ?_)
  refine nv_new F hT hC ?_ hrest
  show wpAny _ _ _ _ _ _
  have k : ∀ b o, h.get? b = some o → ((h.push (W.kdv_tup rest)).push (excO C h.objs.size)).get? b = some o := fun b o e => Heap.get?_push_of_some _ (Heap.get?_push_of_some _ e)
  have hC₁ := k _ _ hC
  have hget : ((h.push (W.kdv_tup rest)).push (excO C h.objs.size)).get? (h.objs.size + 1) = some (excO C h.objs.size) := by heap_get
  have hcC : (Value.ref C :: bm).contains (.ref C) = true := by simp
  have i1 := hi.keeps k
  have b1 := (hb (.ref (h.objs.size + 1))).keeps k
  unfold isInstance
  repeat (first | with_reducible refine wpAny_loadPart_at hget ?_ | (with_reducible refine wpAny_isSubtype_exc hC₁ ?_; rw [hcC]) | wp_step)
  show wpAny _ _ (typeLookup (.ref C) _) _ _ _
  refine i1.at ?_
  refine wpAny_holding (wpAny_bind (b1.at ?_))
  refine wpAny_bind (wpAny_call (codeAny_mono hq fun r s' z => ?_))
  rcases r with e | (v | _ | _ | _) <;> first | exact z | exact z.elim | skip
  obtain ⟨rfl, z⟩ := z
  first
    | exact wpAny_pure (wpAny_pure z)
    | (wp_walk; exact z)
theorem nv_call (F : ExcBaseFacts B newId initId bmB) (hT : ∀ X : String, bm.contains (.type X) = bmB.contains (.type X)) {rest : List Value} {kw : List (Str × Value)} {fI : Addr}
    (hC : h.get? C = some (excClassObj nm q C N bs bm hdct sn sub ab col dd k0 k1 k2 k3 k5 newId))
    (hi : W.Looks (model prog w) h (typeLookup (.ref C) "__init__") (some (.ref fI))) (hb : ∀ self, W.Looks (model prog w) h (bindSpecial (.ref fI) self) (.ref fI, [self])) (hrest : rest.length ≤ sizeLine)
    (hq : codeAny (model prog w) (A.under (.builtin "type.__call__" ⟨.ref C :: rest, kw⟩)) (.call (.ref fI) ⟨.ref (h.objs.size + 1) :: rest, kw⟩) (W.InitBack (h.objs.size + 1) R)
      ⟨(h.push (W.kdv_tup rest)).push (excO C h.objs.size), g, d, t, os⟩) :
    codeAny (model prog w) A (.call (.ref C) ⟨rest, kw⟩) R ⟨h, g, d, t, os⟩ := by
  have f1 := tc_lookup
  have f2 := tc_bind (.ref C)
  have hTy : (⟨h, g, d, t, os⟩ : Shared).TypeIs (.ref C) "type" := ⟨_, hC, rfl⟩
  refine codeAny_of_tree ?_
  show wpAny _ _ (callAny (.ref C) _) _ _ _
  repeat (any_goals (first | assumption | with_reducible refine wpAny_loadPart_at hC ?_ | wp_step))
  refine ⟨rfl, ?_⟩
  refine codeAny_call_builtin_at (Code.quiet_builtin _ (by decide +kernel)) entry_typeCall (wpAny_check_type_call_sub hC (nv_type_call F hT hC hi hb hrest ?_))
  refine codeAny_mono hq fun r s' z => ?_
  rcases r with e | (v | _ | _ | _) <;> exact z
end
end HandSPX
end PySem
namespace NV
open PySem PySem.Spec PyProof.Rows L2
section
variable {X : Cx} {e : Expr} {es : List Expr} {ta tk : TA} {p pos : Pos} {x : Str}
theorem pe_mkx {t : St → Hp → XK → Prop} (he : PMk X e t) : PE X e (fun σ H Q => t σ H fun cls d H1 => ∀ a, H1 a = none → Q (.ref a) (upd H1 a (exv cls d a))) := by
  refine ⟨fun pins s σ H Q I h => ?_⟩
  refine wpAny_mono (he pins s σ H _ I h) (fun u s1 hu => ?_) fun _ _ x => x
  obtain ⟨a, oe, vs, sI, H', cls, d, rfl, J, k, hne, ha, hz, hd, h1, na, os, ag, r, q⟩ := hu
  have new : ObjOk X.prog X.w (upd H' a (exv cls d a)) s1.heap a (exv cls d a) := ⟨⟨oe, vs, ha, hz, hd⟩, ⟨oe, ha⟩, fun h1 h2 ⟨o, v, q1, q2, q3⟩ k => ⟨o, v, k _ q1, q2, q3⟩⟩
  exact ⟨.ref a, _, J.call' (ch := []) os (Un.laidN k hne na) (J.hok.laidN k na new) ag (fun b z => nomatch z), rfl, q a na⟩
/-- the core: C(us, kw), the own __init__ binds them as ys -/
theorem run_mkx {CX : CXT} {C fI : Addr} {k : Nat} {fd : FuncData} {ps : List Str} {sp : Sp} {pins : List (Addr × Obj)} {σ : St} {H1 : Hp} {s1 : Shared} {Q : XK} {us ys : List Value} {kw : List (Str × Value)} {vs : List V} (T : OexC X.K C) (iC : PySem.W.findIn X.K (.ref C) "__init__" = some (some (.ref fI))) (tI : PySem.W.typeIn X.K (.ref fI) = some (.type "function"))
    (F1 : FnOk X.prog X.w X.K X.mg X.base CX k fI fd ps sp) (hr : Room (k + 1) X.A) (hx : Passes CX X (fun _ _ _ => False)) (I1 : Inv X pins σ H1 s1) (hb : ∀ (s : Shared) (self : Value), X.K.In s.heap → BindsTo s fd ⟨self :: us, kw⟩ (ps.zip (self :: ys))) (ry : Vals vs ys) (hus : us.length ≤ sizeLine)
    (hq : ∀ a, H1 a = none → sp (.ref a :: vs) (upd H1 a (exo a C none))
      (fun v H2 => v = .non ∧ ∃ (d : Addr) (fs : List (Str × V)), H2 a = some (exo a C (some d)) ∧ H2 d = some (exd d fs) ∧ H1 d = none ∧ Q (.ref C) (some d) (upd (del H2 a) d (.xd fs))) (fun _ _ _ => False)) :
    wpAny (model X.prog X.w) X.A (call (.ref C) us kw) (MkP X pins σ Q) X.xe s1 := by
  obtain ⟨nm, q, N, bs, bm, sn, sub, ab, col, dd, k0, k1, k2, k3, k5, hC, hbm⟩ := T.cls
  obtain ⟨hp, g, dr, tk, os⟩ := s1
  have hsz : hp.objs.size ≤ hp.objs.size + 1 := Nat.le_succ _
  have hn : H1 (hp.objs.size + 1) = none := I1.hok.fresh hsz
  have hq := hq (hp.objs.size + 1) hn
  have kk : ∀ b o, hp.get? b = some o → ((hp.push (PySem.W.kdv_tup us)).push (PySem.HandSPX.excO C hp.objs.size)).get? b = some o := fun b o e => Heap.get?_push_of_some _ (Heap.get?_push_of_some _ e)
  have hget : ((hp.push (PySem.W.kdv_tup us)).push (PySem.HandSPX.excO C hp.objs.size)).get? (hp.objs.size + 1) = some (PySem.HandSPX.excO C hp.objs.size) := by heap_get
  have I2 : Inv X pins σ (upd H1 (hp.objs.size + 1) (exo (hp.objs.size + 1) C none)) ⟨(hp.push (PySem.W.kdv_tup us)).push (PySem.HandSPX.excO C hp.objs.size), g, dr, tk, os⟩ :=
    I1.laid (t' := tk) (a := hp.objs.size + 1) (o := exo (hp.objs.size + 1) C none) (h' := (hp.push (PySem.W.kdv_tup us)).push (PySem.HandSPX.excO C hp.objs.size)) kk hsz (exo_ok hget)
  have r2 : Vals (V.ref (hp.objs.size + 1) :: vs) (Value.ref (hp.objs.size + 1) :: ys) := .cons rfl ry
  refine wpAny_call (PySem.HandSPX.nv_call F.excBase_ValueError (fun Y => PySem.HandSPX.refsVE_contains Y bm hbm) (I1.kIn _ _ hC) (PySem.W.looks_findIn I1.kIn iC) (fun self => PySem.W.bind_fn I1.kIn self tI) hus
    (codeAny_mono (F1.run _ X.stack _ _ ⟨Value.ref (hp.objs.size + 1) :: us, kw⟩ (Value.ref (hp.objs.size + 1) :: ys) _ _ (fun _ _ _ => False) (hr.make C us kw) (I2.env0.make C us kw) (hb _ (Value.ref (hp.objs.size + 1)) I2.kIn) r2 hq) fun r s' hq' => ?_))
  cases r with
  | error er => exact hx pins σ _ _ er s' I2 hq'
  | ok fl =>
    cases fl with
    | ret u =>
      obtain ⟨v, H2, os2, bare2, un2, hok2, rv, ev, d, fs, ea, ed, hd1, q2⟩ := hq'
      subst ev
      obtain ⟨h2, g2, d2, t2, os'⟩ := s'
      exact ⟨rv, mk_end (raises_own T.exC T.tyC) I1 hsz kk un2 hok2 os2 bare2 ea ed hd1 q2⟩
    | next => exact False.elim hq'
    | brk => exact False.elim hq'
    | cont => exact False.elim hq'
end
end NV

set_option Elab.async false
set_option linter.all false
set_option maxRecDepth 100000
set_option maxHeartbeats 4000000
/-! Lay37: an own exception with the field most, made and kept. -/
namespace NV
open PySem PySem.Spec PyProof.Rows L2
/-- the field's value written by name -/
theorem init_kbinds {K : PySem.W.Frag} {x qual : Str} {params : Arguments} {body : List Stmt} {scope : Scope} {f : Addr} {fd : FuncData} (F : FunD K x qual params body scope [.non] [] f fd)
    (h : ∀ (T : Addr) (kV doc pm : Value) (an : Option Addr) (cdv ct : Value) (us its ws : List Value), us.length = 1 → its.length = [V.non].length → ws.length = 1 →
      ∃ k, bindArgs (PySem.W.fnOf x qual params body scope (.ref T) kV doc pm an cdv ct) ⟨us, (["most"] : List Str).zip ws⟩ = seqItems? (.ref T) >>= k ∧ k (some its.toArray) = pure ((["self", "most"] : List Str).zip (us ++ ws))) :
    ∀ (s : Shared) (us ws : List Value), K.In s.heap → us.length = 1 → ws.length = 1 → BindsTo s fd ⟨us, (["most"] : List Str).zip ws⟩ ((["self", "most"] : List Str).zip (us ++ ws)) := by
  obtain ⟨oc, od, dV, kV, doc, pm, an, cdv, ct, osl, rfl, lk, hcd, hD, hK⟩ := F.ex
  rcases hD with ⟨e, _⟩ | ⟨_, T, o, its, m, rfl, lT, oT, rT⟩
  · cases e
  · intro s us ws X l1 l2
    obtain ⟨k, e1, e2⟩ := h T kV doc pm an cdv ct us its ws l1 rT.length.symm l2
    refine BindsTo.of_looks fun M => ?_
    rw [e1]
    exact looks_items X lT oT (.of_pure e2)
/-- the field left out -/
theorem init_binds0 {K : PySem.W.Frag} {x qual : Str} {params : Arguments} {body : List Stmt} {scope : Scope} {f : Addr} {fd : FuncData} (F : FunD K x qual params body scope [.non] [] f fd)
    (h : ∀ (T : Addr) (kV doc pm : Value) (an : Option Addr) (cdv ct : Value) (us its : List Value), us.length = 1 → its.length = [V.non].length →
      ∃ k, bindArgs (PySem.W.fnOf x qual params body scope (.ref T) kV doc pm an cdv ct) ⟨us, []⟩ = seqItems? (.ref T) >>= k ∧ k (some its.toArray) = pure ((["self", "most"] : List Str).zip (us ++ its.drop 0))) : ∃ ds, Vals [V.non] ds ∧ Binds K fd ["self", "most"] ds :=
  F.binds1 (ps := ["self", "most"]) 1 0 (by simp) rfl h
section
variable {X : Cx} {e : Expr} {ta tk : TA} {te : TE} {p pos kpos : Pos} {x : Str} {f : Ev} {c : Lv}
/-- what comes of C's own __init__, for a value v of the field -/
def tMk1 (C : Addr) (v : V) (H1 : Hp) (Q : XK) : Prop := ∀ dx, H1 dx = none → Q (.ref C) (some dx) (upd H1 dx (.xd [(("most" : Str), v)]))
theorem spI_of {C : Addr} {v : V} {H1 : Hp} {Q : XK} (h : tMk1 C v H1 Q) : ∀ a, H1 a = none → spI C (.ref a :: [v]) (upd H1 a (exo a C none))
      (fun w H2 => w = .non ∧ ∃ (d : Addr) (fs : List (Str × V)), H2 a = some (exo a C (some d)) ∧ H2 d = some (exd d fs) ∧ H1 d = none ∧ Q (.ref C) (some d) (upd (del H2 a) d (.xd fs))) (fun _ _ _ => False) := fun a na => by
  refine ⟨a, v, rfl, upd_same, fun dx ndx hne => ?_⟩
  rw [upd_ne hne] at ndx
  refine ⟨rfl, dx, [(("most" : Str), v)], upd_same, by rw [upd_ne hne, upd_same], ndx, ?_⟩
  have eH : upd (del (upd (upd (upd H1 a (exo a C none)) dx (exd dx [(("most" : Str), v)])) a (exo a C (some dx))) a) dx (.xd [(("most" : Str), v)]) = upd H1 dx (.xd [(("most" : Str), v)]) := by
    funext b
    by_cases hb : b = dx
    · subst hb; rw [upd_same, upd_same]
    · rw [upd_ne hb, upd_ne hb]
      by_cases hba : b = a
      · subst hba; rw [del_same, na]
      · rw [del_ne hba, upd_ne hba, upd_ne hb, upd_ne hba]
  rw [eH]
  exact h dx ndx
theorem pmk_0 {CX : CXT} {C fI : Addr} {k : Nat} {fd : FuncData} {ds : List Value} (T : OexC X.K C) (iC : PySem.W.findIn X.K (.ref C) "__init__" = some (some (.ref fI))) (tI : PySem.W.typeIn X.K (.ref fI) = some (.type "function"))
    (F1 : FnOk X.prog X.w X.K X.mg X.base CX k fI fd ["self", "most"] (spI C)) (hr : Room (k + 1) X.A) (hb : Binds X.K fd ["self", "most"] ds) (hd : Vals [V.non] ds) (hx : Passes CX X (fun _ _ _ => False)) (hg : Gl X x) (hm : X.mg x = some (.ref C))
    (hdb : (x == ("__debug__" : Str)) = false := by decide) : PMk X (.Call (.Name x p) [] [] pos) (fun _ H Q => tMk1 C .non H Q) := by
  intro pins s σ H Q I h
  refine wpAny_Call_Name_kw (ld_glob I hg hm ?_ hdb)
  refine PySem.W.callWith_K0 I.kIn T.kC (run_mkx (us := []) (ys := ds) (kw := []) (vs := [.non]) T iC tI F1 hr hx I (fun s self hk => ?_) hd (Nat.zero_le _) (spI_of h))
  exact hb s [self] hk (by
    have := hd.length
    rw [List.length_append, ← this]; rfl)
theorem pmk_k {CX : CXT} {C fI : Addr} {k : Nat} {fd : FuncData} (T : OexC X.K C) (iC : PySem.W.findIn X.K (.ref C) "__init__" = some (some (.ref fI))) (tI : PySem.W.typeIn X.K (.ref fI) = some (.type "function"))
    (F1 : FnOk X.prog X.w X.K X.mg X.base CX k fI fd ["self", "most"] (spI C)) (hr : Room (k + 1) X.A) (hb : ∀ (s : Shared) (us ws : List Value), X.K.In s.heap → us.length = 1 → ws.length = 1 → BindsTo s fd ⟨us, (["most"] : List Str).zip ws⟩ ((["self", "most"] : List Str).zip (us ++ ws)))
    (hx : Passes CX X (fun _ _ _ => False)) (hg : Gl X x) (hm : X.mg x = some (.ref C)) (he : PE X e te)
    (hall : (backToKw pos (keywordEach [⟨some "most", e, kpos⟩] X.env)).all (·.1.isSome) = true := by rfl) (hks : (backToKw pos (keywordEach [⟨some "most", e, kpos⟩] X.env)).filterMap (·.1) = (["most"] : List Str) := by rfl)
    (hpl : ((backTo pos (starEach [] X.env)).any (·.1) || (backToKw pos (keywordEach [⟨some "most", e, kpos⟩] X.env)).any (·.1.isNone)) = false := by rfl)
    (hdb : (x == ("__debug__" : Str)) = false := by decide) : PMk X (.Call (.Name x p) [] [⟨some "most", e, kpos⟩] pos) (fun σ H Q => te σ H fun v H1 => ∃ v', [v] = [v'] ∧ tMk1 C v' H1 Q) := by
  intro pins s σ H Q I h
  refine wpAny_Call_Name_kw (ld_glob I hg hm ?_ hdb)
  refine PySem.W.callWith_KW0 (h₀ := X.base) I.ok.mod.kin T.kC hall ?_ hpl
  refine thn ((pk_cons (kpos := kpos) (nm := some "most") he pk_nil).run pos pins s σ H (fun vs H1 => ∃ v, vs = [v] ∧ tMk1 C v H1 Q) I ?_) fun ws s2 ⟨zs, H2, I2, rz, v, ev, q2⟩ => ⟨I2.kIn, ?_⟩
  · exact h
  · subst ev
    rw [hks]
    have l2 : ws.length = 1 := by rw [← rz.length]; rfl
    exact run_mkx (us := []) (ys := ws) (kw := (["most"] : List Str).zip ws) (vs := [v]) T iC tI F1 hr hx I2 (fun s self hk => hb s [self] ws hk rfl l2) rz (Nat.zero_le _) (spI_of q2)
/-- from a made exception to what the semantics says of it -/
theorem mk_po {K : PySem.W.Frag} {C : Addr} {k : Nat} {π : Nat → Addr} {ρ1 : Env} {G1 H1 : Hp} {σ : St} {w1 : V} {d1 : D} {Q : VK} (S1 : SE K π ρ1 G1 σ H1) (hC : ExcAt K k C) (r1 : Rep K G1 w1 d1) (k1 : Po K c π ρ1 G1 σ H1 (.ok (.exc k [d1]) ρ1) (JE K Q)) :
    tMk1 C w1 H1 fun cls d H2 => ∀ a, H2 a = none → Q (.ref a) (upd H2 a (exv cls d a)) := fun dx ndx a na => by
  have g1 := Grow.tr (o := .xd [(("most" : Str), w1)]) S1.sub ndx
  obtain ⟨S2, e2⟩ := S1.grow g1
  have g2 := Grow.tr (o := exv (.ref C) (some dx) a) S2.sub na
  obtain ⟨S3, e3⟩ := S2.grow g2
  have sG := g1.g.trans g2.g
  have hdx : upd (upd G1 dx (.xd [(("most" : Str), w1)])) a (exv (.ref C) (some dx) a) dx = some (.xd [(("most" : Str), w1)]) := g2.g _ _ upd_same
  exact k1 _ _ sG (e2.trans e3) S3 (.ref a) (.exc hC upd_same (.inr ⟨w1, dx, rfl, rfl, hdx⟩) (.cons (r1.mono sG _) .nil))
theorem re_mk1 {CX : CXT} {C fI : Addr} {fd : FuncData} (k : Nat) {k0 : Nat} (hC : ExcAt X.K k C) (T : OexC X.K C) (iC : PySem.W.findIn X.K (.ref C) "__init__" = some (some (.ref fI))) (tI : PySem.W.typeIn X.K (.ref fI) = some (.type "function"))
    (F1 : FnOk X.prog X.w X.K X.mg X.base CX k0 fI fd ["self", "most"] (spI C)) (hr : Room (k0 + 1) X.A) (hb : Binds X.K fd ["self", "most"] []) (hx : Passes CX X (fun _ _ _ => False)) (hg : Gl X x) (hm : X.mg x = some (.ref C)) (ha : PE X e (tE X.K c f))
    (hdb : (x == ("__debug__" : Str)) = false := by decide) (he : starEach [e] X.env = (false, eval e X.env) :: starEach [] X.env := by rfl) (hpl : (backTo pos (starEach [] X.env)).any (·.1) = false := by rfl) :
    PE X (.Call (.Name x p) [e] [] pos) (tE X.K c (eMk k f)) :=
  PE_imp (pe_mkx (pmk_oex (ds := []) (dvs := []) T iC tI F1 hr hb .nil hx hg hm (pa_cons ha pa_nil he) hdb he hpl)) fun σ H Q q => by
    obtain ⟨π, ρ, G, S, kk⟩ := q
    unfold eMk at kk
    exact ⟨π, ρ, G, S, (Po.bind kk).mono fun d1 ρ1 G1 H1 s1 e1 S1 k1 w1 r1 => ⟨by simp, spI_of (mk_po S1 hC r1 k1)⟩⟩
theorem re_mkK {CX : CXT} {C fI : Addr} {fd : FuncData} (k : Nat) {k0 : Nat} (hC : ExcAt X.K k C) (T : OexC X.K C) (iC : PySem.W.findIn X.K (.ref C) "__init__" = some (some (.ref fI))) (tI : PySem.W.typeIn X.K (.ref fI) = some (.type "function"))
    (F1 : FnOk X.prog X.w X.K X.mg X.base CX k0 fI fd ["self", "most"] (spI C)) (hr : Room (k0 + 1) X.A) (hb : ∀ (s : Shared) (us ws : List Value), X.K.In s.heap → us.length = 1 → ws.length = 1 → BindsTo s fd ⟨us, (["most"] : List Str).zip ws⟩ ((["self", "most"] : List Str).zip (us ++ ws)))
    (hx : Passes CX X (fun _ _ _ => False)) (hg : Gl X x) (hm : X.mg x = some (.ref C)) (ha : PE X e (tE X.K c f))
    (hall : (backToKw pos (keywordEach [⟨some "most", e, kpos⟩] X.env)).all (·.1.isSome) = true := by rfl) (hks : (backToKw pos (keywordEach [⟨some "most", e, kpos⟩] X.env)).filterMap (·.1) = (["most"] : List Str) := by rfl)
    (hpl : ((backTo pos (starEach [] X.env)).any (·.1) || (backToKw pos (keywordEach [⟨some "most", e, kpos⟩] X.env)).any (·.1.isNone)) = false := by rfl) (hdb : (x == ("__debug__" : Str)) = false := by decide) :
    PE X (.Call (.Name x p) [] [⟨some "most", e, kpos⟩] pos) (tE X.K c (eMk k f)) :=
  PE_imp (pe_mkx (pmk_k T iC tI F1 hr hb hx hg hm ha hall hks hpl hdb)) fun σ H Q q => by
    obtain ⟨π, ρ, G, S, kk⟩ := q
    unfold eMk at kk
    exact ⟨π, ρ, G, S, (Po.bind kk).mono fun d1 ρ1 G1 H1 s1 e1 S1 k1 w1 r1 => ⟨w1, rfl, mk_po S1 hC r1 k1⟩⟩
theorem re_mk0 {CX : CXT} {C fI : Addr} {fd : FuncData} (k : Nat) {k0 : Nat} (hC : ExcAt X.K k C) (T : OexC X.K C) (iC : PySem.W.findIn X.K (.ref C) "__init__" = some (some (.ref fI))) (tI : PySem.W.typeIn X.K (.ref fI) = some (.type "function"))
    (F1 : FnOk X.prog X.w X.K X.mg X.base CX k0 fI fd ["self", "most"] (spI C)) (hr : Room (k0 + 1) X.A) (hb : ∃ ds, Vals [V.non] ds ∧ Binds X.K fd ["self", "most"] ds) (hx : Passes CX X (fun _ _ _ => False)) (hg : Gl X x) (hm : X.mg x = some (.ref C))
    (hdb : (x == ("__debug__" : Str)) = false := by decide) : PE X (.Call (.Name x p) [] [] pos) (tE X.K c (eMk0 k)) := by
  obtain ⟨ds, hd, hb⟩ := hb
  exact PE_imp (pe_mkx (pmk_0 T iC tI F1 hr hb hd hx hg hm hdb)) fun σ H Q q => by
    obtain ⟨π, ρ, G, S, kk⟩ := q
    exact mk_po S hC .non kk
end
end NV

set_option Elab.async false
set_option linter.all false
set_option maxRecDepth 100000
set_option maxHeartbeats 4000000
/-! Lay38: sorted of pairs of a text and a whole number; a dict of one pair. -/
namespace NV
open PySem PySem.Spec PyProof.Rows L2 Srt SrtO
theorem sortPS_uniq {ps qs : List (List Nat × Int)} (h : qs.Perm ps) (p : qs.Pairwise fun a b => pltS b a = false) : qs = sortPS ps := by
  refine List.Perm.eq_of_pairwise (le := fun a b => pltS b a = false) (fun a b _ _ h1 h2 => pltS_anti h1 h2) p ?_ (h.trans (List.mergeSort_perm _ _).symm)
  have := List.pairwise_mergeSort (le := fun a b : List Nat × Int => !pltS b a) (fun a b c h1 h2 => by
    rw [Bool.not_eq_true'] at h1 h2 ⊢
    exact pltS_neg h1 h2) (fun a b => by
    cases e : pltS b a with
    | false => simp
    | true => rw [pltS_asym e]; simp) ps
  exact this.imp fun h => by simpa using h
theorem swo_S (k : Value → List Nat × Int) : Swo fun v u => pltS (k v) (k u) := ⟨fun x y h => pltS_asym h, fun x y z h1 h2 => pltS_neg h1 h2⟩
def IsPS (h : Heap) (v : Value) (p : List Nat × Int) : Prop := ∃ a o t u n, v = .ref a ∧ h.get? a = some o ∧ o.cls = .type "tuple" ∧ o.data = .seq #[.str (ofL p.1) t, .int p.2 u] n
theorem IsPS.keeps {h h' : Heap} {v : Value} {p : List Nat × Int} (x : IsPS h v p) (k : ∀ b o, h.get? b = some o → o.cls = .type "tuple" → h'.get? b = some o) : IsPS h' v p := by
  obtain ⟨a, o, t, u, n, e, ho, hc, hd⟩ := x
  exact ⟨a, o, t, u, n, e, k _ _ ho hc, hc, hd⟩
theorem IsPS.uniq {h : Heap} {v : Value} {p q : List Nat × Int} (x : IsPS h v p) (y : IsPS h v q) : p = q := by
  obtain ⟨a, o, t, u, n, e, ho, hc, hd⟩ := x
  obtain ⟨a', o', t', u', n', e', ho', hc', hd'⟩ := y
  rw [e] at e'
  cases e'
  rw [ho] at ho'
  cases ho'
  rw [hd] at hd'
  have h1 : (#[Value.str (ofL p.1) t, .int p.2 u] : Array Value) = #[.str (ofL q.1) t', .int q.2 u'] := by injection hd'
  have h2 : [Value.str (ofL p.1) t, .int p.2 u] = [.str (ofL q.1) t', .int q.2 u'] := congrArg Array.toList h1
  injection h2 with h3 h4
  injection h4 with h5 _
  injection h3 with h6 _
  injection h5 with h7 _
  exact Prod.ext (ofL_inj h6) h7
section
variable {prog : Program} {w : World} {A : Around} {E : Value → Shared → Prop} {s : Shared}
theorem pairS_cmp {vs : List Value} {k : Value → List Nat × Int} (hp : ∀ v ∈ vs, IsPS s.heap v (k v)) : Cmp prog w A s (tuples' true) (fun p => p.1 ∈ vs) (lt2 fun v u => pltS (k v) (k u)) := by
  intro p q hm hm'
  have h1 := hp _ hm
  have h2 := hp _ hm'
  show wpAny (model prog w) A (keyLt' (tuples' true) p.1 q.1) (fun r s' => s' = s ∧ r = pltS (k p.1) (k q.1)) (fun _ _ => False) s
  generalize k p.1 = x at h1 ⊢
  generalize k q.1 = x' at h2 ⊢
  obtain ⟨a, o, t, u, n, e, ho, hc, hd⟩ := h1
  obtain ⟨a', o', t', u', n', e', ho', hc', hd'⟩ := h2
  unfold pltS
  rw [e, e']
  refine PySem.W.kat_lt ho hd ho' hd' ?_
  show PySem.W.KatLex prog w A true (decide (2 < 2)) _ [(.str (ofL x.1) t, .str (ofL x'.1) t'), (.int x.2 u, .int x'.2 u')] 0 s
  refine PySem.W.kat_cons (SeqAt.EqAt.str_str (ofL x.1) t (ofL x'.1) t' prog w _ _ ?_)
  refine PySem.W.kat_go (fun e1 => ?_) (fun e1 => ?_)
  · have ex : x.1 = x'.1 := ofL_inj (by simpa using e1)
    refine PySem.W.kat_yes (PySem.W.kat_cons (SeqAt.EqAt.int_int x.2 u x'.2 u' prog w _ _ ?_))
    refine PySem.W.kat_go (fun e2 => ?_) (fun e2 => ?_)
    · have ey : x.2 = x'.2 := by simpa using e2
      have e3 : (if x.1 = x'.1 then decide (x.2 < x'.2) else decide (x.1 < x'.1)) = false := by
        rw [if_pos ex, ey]
        exact decide_eq_false (Int.lt_irrefl _)
      exact PySem.W.kat_yes (PySem.W.kat_nil ⟨rfl, e3.symm⟩)
    · have e3 : (if x.1 = x'.1 then decide (x.2 < x'.2) else decide (x.1 < x'.1)) = decide (x.2 < x'.2) := if_pos ex
      refine PySem.W.kat_no (PySem.W.kat_one _ _ (PyProof.Rows.lt_int ?_))
      exact (show s = s ∧ decide (x.2 < x'.2) = (if x.1 = x'.1 then decide (x.2 < x'.2) else decide (x.1 < x'.1)) from ⟨rfl, e3.symm⟩)
  · have ex : ¬ x.1 = x'.1 := fun z => by
      rw [z] at e1
      simp at e1
    have e3 : (if x.1 = x'.1 then decide (x.2 < x'.2) else decide (x.1 < x'.1)) = decide (x.1 < x'.1) := if_neg ex
    refine PySem.W.kat_no (oneLt_str ?_)
    rw [ofL_cps, ofL_cps]
    exact ⟨rfl, e3.symm⟩
end
end NV

set_option Elab.async false
set_option linter.all false
set_option maxRecDepth 100000
set_option maxHeartbeats 4000000
/-! Lay39: sorted of pairs of a text and a whole number: the rules; {k: v}. -/
namespace NV
open PySem PySem.Spec PyProof.Rows L2 Srt SrtO
theorem firstsS {h : Heap} : ∀ {vs : List Value}, (∀ v ∈ vs, ∃ p, IsPS h v p) → ∃ fs : List Value, PySem.W.KatTups h vs fs ∧ fs.length = vs.length ∧ ∀ f ∈ fs, ∃ x t, f = Value.str x t
  | [], _ => ⟨[], PySem.W.KatTups.nil, rfl, fun _ hm => by simp at hm⟩
  | v :: vs, hp => by
    obtain ⟨fs, h1, h2, h3⟩ := firstsS (vs := vs) fun v' hm => hp v' (List.mem_cons_of_mem _ hm)
    obtain ⟨p, a, o, t, u, n, e, ho, hc, hd⟩ := hp v (List.mem_cons_self ..)
    subst e
    refine ⟨.str (ofL p.1) t :: fs, PySem.W.KatTups.cons ho hc hd rfl h1, by rw [List.length_cons, List.length_cons, h2], fun f hm => ?_⟩
    rcases List.mem_cons.mp hm with rfl | hm
    · exact ⟨_, t, rfl⟩
    · exact h3 f hm
section
variable {prog : Program} {w : World} {A : Around} {E : Value → Shared → Prop} {s : Shared}
theorem pairsS_sortable {a : Addr} {vs : List Value} {k : Value → List Nat × Int} (h0 : 0 < vs.length) (hp : ∀ v ∈ vs, IsPS s.heap v (k v)) (ha : ∀ o, s.heap.get? a = some o → o.cls ≠ .type "tuple") : SortableO prog w A s a vs fun v u => pltS (k v) (k u) := by
  intro h' keep
  have hp' : ∀ v ∈ vs, IsPS h' v (k v) := fun v hm => (hp v hm).keeps fun b o e c => keep b o (fun z => by subst z; exact ha o e c) e
  obtain ⟨fs, h1, h2, h3⟩ := firstsS fun v hm => ⟨_, hp' v hm⟩
  refine ⟨tuples' true, fun Q E hq => ?_, pairS_cmp hp'⟩
  refine PySem.W.kat_kind (T := .type "str") h1 (by omega) (fun f hm => ?_) (by rfl) ?_
  · obtain ⟨x, t, rfl⟩ := h3 f hm
    exact PySem.W.Looks.now
  · have e : (Value.type "str" != Value.type "tuple") = true := by first | decide +kernel | rfl | decide
    rw [e]
    exact hq
end
/-- the value y is a told pair -/
def PsV (K : PySem.W.Frag) (H : Hp) (y : V) (p : List Nat × Int) : Prop := ∃ t, y = .ref t ∧ SqT K H t [.str (ofL p.1), .int p.2]
def rSortPS (K : PySem.W.Frag) : List V → Hp → VK → Prop := fun vs H Q => ∃ (a : Addr) (ys : List V) (ps : List (List Nat × Int)), vs = [.ref a] ∧ SqL K H a ys ∧ Paired (PsV K H) ys ps ∧
  ∀ (l : List (V × (List Nat × Int))) (p : Addr), l.Perm (ys.zip ps) → l.map Prod.snd = sortPS ps → H p = none → Q (.ref p) (upd H p (.lst (l.map Prod.fst)))
theorem zip_maps {α β γ : Type} (f : α → β) (g : α → γ) : ∀ xs : List α, (xs.map f).zip (xs.map g) = xs.map fun x => (f x, g x)
  | [] => rfl
  | x :: r => by rw [List.map_cons, List.map_cons, List.zip_cons_cons, zip_maps f g r]; rfl
theorem paired_perm {α β : Type} {R : α → β → Prop} {xs : List α} {f : α → β} (h : ∀ x ∈ xs, R x (f x)) : Paired R xs (xs.map f) := by
  induction xs with
  | nil => exact .nil
  | cons x r ih => exact .cons (h x List.mem_cons_self) (ih fun y hy => h y (List.mem_cons_of_mem _ hy))
theorem paired_mem {α β : Type} {R : α → β → Prop} {xs : List α} {ys : List β} (h : Paired R xs ys) : ∀ x ∈ xs, ∃ y, R x y := by
  induction h with
  | nil => intro x hx; cases hx
  | cons r t ih =>
    intro x hx
    rcases List.mem_cons.mp hx with rfl | hx
    · exact ⟨_, r⟩
    · exact ih x hx
section
variable {X : Cx}
theorem cr_sortPS : CallR X (.builtin "sorted") (rSortPS X.K) := by
  classical
  intro pins s σ H vs us Q I r h
  obtain ⟨a, ys, ps, rfl, hs, hp, q⟩ := h
  obtain ⟨its, rv, hl, hz⟩ := I.list hs
  rw [Vals.ref1 r]
  -- the values, read in the heap
  have key : ∀ {ys : List V} {its : List Value} {ps : List (List Nat × Int)}, Vals ys its → Paired (PsV X.K H) ys ps → Paired (fun u p => IsPS s.heap u p ∧ ∃ t, u = .ref t ∧ SqT X.K H t [.str (ofL p.1), .int p.2]) its ps := by
    intro ys its ps r
    induction r generalizing ps with
    | nil => intro h; cases h; exact .nil
    | @cons y u ys us ry rt ih =>
      intro h
      cases h with
      | @cons _ p _ pr h1 h2 =>
        obtain ⟨t, rfl, ht⟩ := h1
        obtain rfl : u = Value.ref t := ry
        refine .cons ⟨?_, t, rfl, ht⟩ (ih h2)
        obtain ⟨its2, r2, ⟨o, ho, hc, n, hd⟩, _⟩ := I.tuple ht
        obtain ⟨u1, u2, rfl, ri, rj⟩ := vals2 r2
        obtain ⟨t1, rfl⟩ := ri
        obtain ⟨t2, rfl⟩ := rj
        exact ⟨t, o, t1, t2, n, rfl, ho, hc, hd⟩
  have kp := key rv hp
  let k : Value → List Nat × Int := fun u => if h : ∃ p, IsPS s.heap u p then Classical.choose h else ([], 0)
  have kk : ∀ u p, IsPS s.heap u p → k u = p := fun u p h => by
    have e : ∃ p, IsPS s.heap u p := ⟨p, h⟩
    show (if h : ∃ p, IsPS s.heap u p then Classical.choose h else ([], 0)) = p
    rw [dif_pos e]
    exact (Classical.choose_spec e).uniq h
  have km : its.map k = ps := by
    have : ∀ {us : List Value} {ps : List (List Nat × Int)}, Paired (fun u p => IsPS s.heap u p ∧ ∃ t, u = .ref t ∧ SqT X.K H t [.str (ofL p.1), .int p.2]) us ps → us.map k = ps := by
      intro us ps h
      induction h with
      | nil => rfl
      | cons r t ih => rw [List.map_cons, ih, kk _ _ r.1]
    exact this kp
  have ki : ∀ u ∈ its, IsPS s.heap u (k u) ∧ ∃ t, u = .ref t ∧ SqT X.K H t [.str (ofL (k u).1), .int (k u).2] := fun u hu => by
    obtain ⟨p, hp1, hp2⟩ := paired_mem kp u hu
    rw [kk u p hp1]
    exact ⟨hp1, hp2⟩
  refine SrtO.sorted_ord (swo_S k) hl.isList (by rw [← rv.length]; exact hz) (fun h2 h₁ a' ha hk => ?_) fun out h1 h2 => ?_
  · refine pairsS_sortable (s := { s with heap := h₁ }) (by omega) (fun v hm => (ki v hm).1.keeps fun b o e _ => (hk b o e).2) fun o e => ?_
    have e' : some o = some (seqObj "list" its.toArray 0) := e.symm.trans ha
    cases e'
    intro c
    exact absurd (Value.type.inj c) (by decide)
  · have hm : ∀ u ∈ out, u ∈ its := fun u hu => h2.perm.mem_iff.mp hu
    have hu : out.map k = sortPS ps := by
      rw [← km]
      exact sortPS_uniq (h2.perm.map k) (List.pairwise_map.mpr h1)
    have h3 : ∀ u ∈ out, ∃ a, u = Value.ref a := fun u hu => by
      obtain ⟨_, t, e, _⟩ := ki u (hm u hu)
      exact ⟨t, e⟩
    have hy : ys = its.map backV := by
      have : ∀ {ys : List V} {ps : List (List Nat × Int)}, Paired (PsV X.K H) ys ps → ∀ x ∈ ys, ∃ a, x = V.ref a := fun h x hx => by
        obtain ⟨p, t, e, _⟩ := paired_mem h x hx
        exact ⟨t, e⟩
      exact (refs_back rv (this hp)).1
    have hzip : ys.zip ps = its.map fun u => (backV u, k u) := by
      rw [hy, ← km]
      exact zip_maps _ _ its
    have pz : (out.map fun u => (backV u, k u)).Perm (ys.zip ps) := by
      rw [hzip]
      exact h2.perm.map _
    have pf : (out.map fun u => (backV u, k u)).map Prod.fst = out.map backV := by rw [List.map_map]; rfl
    have psn : (out.map fun u => (backV u, k u)).map Prod.snd = sortPS ps := by rw [List.map_map, ← hu]; rfl
    have qq := q _ (s.heap.objs.size + 1) pz psn (I.hok.fresh (Nat.le_succ _))
    rw [pf] at qq
    obtain ⟨ep, he'⟩ := PyProof.Rows.sortedAll_at s.heap its out.toArray
    have hlen : (out.map backV).length ≤ sizeLine := by
      rw [List.length_map, h2.perm.length_eq, ← rv.length]
      exact hz
    exact ⟨.ref _, upd H (s.heap.objs.size + 1) (.lst (out.map backV)), I.laid (t' := s.toks) (fun _ _ => PyProof.Rows.sortedAll_old) (Nat.le_succ _) ⟨hlen, out, ep, vals_back h3, he'⟩, rfl, qq⟩
end
theorem reps_ps {K : PySem.W.Frag} {G : Hp} : ∀ {ds : List D} {vs : List V} {ps : List (List Nat × Int)}, Reps K G vs ds → pairsS ds = some ps → Paired (PsV K G) vs ps ∧ ds = ps.map pDS
  | [], _, _, h, e => by
    cases h
    obtain rfl := Option.some.inj e
    exact ⟨.nil, rfl⟩
  | d :: ds, _, ps, h, e => by
    cases h with
    | cons h1 h2 =>
      match d, e, h1 with
      | .tup [.str s, .int i], e, h1 =>
        simp only [pairsS] at e
        cases z : pairsS ds with
        | none => rw [z] at e; cases e
        | some qs =>
          rw [z] at e
          obtain rfl := Option.some.inj e
          obtain ⟨k1, k2⟩ := reps_ps h2 z
          cases h1 with
          | tup a1 a2 =>
            cases a2 with
            | cons b1 b2 =>
              cases b2 with
              | cons c1 c2 =>
                cases c2
                cases b1
                cases c1
                exact ⟨.cons ⟨_, rfl, a1⟩ k1, by rw [List.map_cons, ← k2]; rfl⟩
theorem ps_reps {K : PySem.W.Frag} {G : Hp} {vs : List V} {ps : List (List Nat × Int)} (h : Paired (PsV K G) vs ps) : Reps K G vs (ps.map pDS) := by
  induction h with
  | nil => exact .nil
  | cons r t ih =>
    obtain ⟨a, rfl, ha⟩ := r
    exact .cons (.tup ha (.cons (.str _) (.cons (.int _) .nil))) ih
theorem Paired.imp {α β : Type} {R S : α → β → Prop} (h : ∀ x y, R x y → S x y) {xs : List α} {ys : List β} (p : Paired R xs ys) : Paired S xs ys := by
  induction p with
  | nil => exact .nil
  | cons r t ih => exact .cons (h _ _ r) ih
theorem paired_zip {α β : Type} {R : α → β → Prop} {xs : List α} {ys : List β} (h : Paired R xs ys) : ∀ q ∈ xs.zip ys, R q.1 q.2 := by
  induction h with
  | nil => intro q hq; simp at hq
  | cons r t ih =>
    intro q hq
    rw [List.zip_cons_cons] at hq
    rcases List.mem_cons.mp hq with rfl | hq
    · exact r
    · exact ih q hq
theorem paired_fst {α β : Type} {R : α → β → Prop} : ∀ {l : List (α × β)}, (∀ q ∈ l, R q.1 q.2) → Paired R (l.map Prod.fst) (l.map Prod.snd)
  | [], _ => .nil
  | q :: l, h => .cons (h q List.mem_cons_self) (paired_fst fun z hz => h z (List.mem_cons_of_mem _ hz))
section
variable {X : Cx} {c : Lv} {a b e : Expr} {es : List Expr} {f h : Ev} {r : Ea} {pos p p2 : Pos} {x : Str}
/-- sorted(pairs), the def's own -/
theorem ro_sortP (hg : Gl X "sorted") (hm : X.mg "sorted" = none) (ha : PE X a (tE X.K c f)) (hs : starEach [a] X.env = (false, eval a X.env) :: starEach [] X.env := by rfl) : PE X (.Call (.Name "sorted" p) [a] [] pos) (tO X.K c (own (e1 opSortP f))) := by
  refine PE_imp (pe_callB (id := "sorted") callr_U hg hm rfl (pa_cons ha pa_nil hs) (by decide) (by decide) hs rfl) fun σ H Q q => ?_
  obtain ⟨π, ρ, G, S, k⟩ := q
  unfold own e1 at k
  rw [Res.bind_bind] at k
  refine ⟨π, ρ, G, S, (Po.bind k).mono fun d1 ρ1 G1 H1 _ e1 S1 k1 w1 r1 => ?_⟩
  cases r1 with
  | @lst pa ws ds h1 h2 =>
    simp only [opSortP] at k1
    cases z : pairsS ds with
    | none => rw [z] at k1; exact False.elim k1
    | some ps =>
      rw [z] at k1
      obtain ⟨g1, g2⟩ := reps_ps h2 z
      refine rUC_of cr_sortPS ⟨_, ws, ps, rfl, SqL.of (S1.sub _ _ h1), Paired.imp (fun y p ⟨t, e, ht⟩ => ⟨t, e, Same.tupS S1.sub ht⟩) g1, fun l p pl ps2 hn => ?_⟩
      have rs : Reps X.K G1 (l.map Prod.fst) ((sortPS ps).map pDS) := by
        rw [← ps2]
        exact ps_reps (paired_fst fun q hq => paired_zip g1 q (pl.mem_iff.mp hq))
      exact own_new S1 e1 k1 rs p hn
  | _ => exact False.elim k1
/-- {k: True}, the def's own; the key by a step that changes no heap -/
theorem dct1_end {K : PySem.W.Frag} {c : Lv} {π : Nat → Addr} {ρ : Env} {G H : Hp} {σ : St} {Q : VK} {z : List Nat} {p : Addr} (S : SE K π ρ G σ H) (n : H p = none)
    (k : Po K c π ρ G σ H (.ok (.o (.dct [(z, .bl true)])) ρ) fun r ρ' G' H' => ∀ w, RR K ρ σ H ρ' σ G' H' r w → Q w H') :
    upd H p (.dK []) p = some (.dK []) ∧ ∃ kvs : List (Key × V), [(V.str (ofL z), V.bl true)] = kvs.map (fun kv => (kV kv.1, kv.2)) ∧ kvs.length ≤ 15 ∧ Q (.ref p) (upd (upd H p (.dK [])) p (.dK (mergeK [] kvs))) := by
  refine ⟨upd_same, [(.inr (ofL z), .bl true)], rfl, by simp, ?_⟩
  have e : upd (upd H p (.dK [])) p (.dK (mergeK [] [(.inr (ofL z), .bl true)])) = upd H p (.dK [(.inr (ofL z), .bl true)]) := by
    funext b
    by_cases hb : b = p
    · subst hb; rw [upd_same, upd_same]; rfl
    · rw [upd_ne hb, upd_ne hb, upd_ne hb]
  rw [e]
  have g := Grow.apart (o := .dK [(.inr (ofL z), .bl true)]) S.sub n
  obtain ⟨S2, e2⟩ := S.grow g
  have gn : G p = none := by
    cases q : G p with
    | none => rfl
    | some o => rw [S.sub _ _ q] at n; cases n
  have no : ¬ Ownd ρ σ p := fun q => by
    obtain ⟨_, o, ho⟩ := S.own q
    rw [n] at ho; cases ho
  exact k G _ (Same.refl _) e2 S2 (.ref p) ⟨p, rfl, gn, ⟨_, upd_same, .cons (.bl true) .nil⟩, no, .inl n⟩
theorem ro_dctN (i : Nat) {j : Nat} {p3 : Pos} (hN : X.N[i]? = some x) (hv : Vis X.env.scope x) (hd : (x == ("__debug__" : Str)) = false := by decide) (hcd : (x == ("__classdict__" : Str)) = false := by decide) :
    PE X (.Dict [some (.Name x p)] [.Constant (.bool true) j p3] pos) (tO X.K c (own (eDct1 (eV i) (eC (.bl true))))) :=
  PE_imp (pe_disp (pps_cons (pe_var hN hv hd hcd) pe_bl pps_nil) rfl rfl (by simp) (Nat.le_of_ble_eq_true rfl)) fun σ H Q q => by
    obtain ⟨π, ρ, G, S, k⟩ := q
    unfold own eDct1 eV eC at k
    intro p' n
    cases e : ρ[i]? with
    | none => rw [e] at k; exact False.elim k
    | some s =>
      rw [e] at k
      cases s with
      | v d =>
        obtain ⟨w, hw, r⟩ := S.ok i _ e
        cases d with
        | str z =>
          cases r
          exact ⟨_, hw, dct1_end S n k⟩
        | _ => exact False.elim k
      | _ => exact False.elim k
theorem ro_dctIx (i : Nat) (m : Int) {j j2 : Nat} {p3 p4 p5 : Pos} (hN : X.N[i]? = some x) (hv : Vis X.env.scope x) (hd : (x == ("__debug__" : Str)) = false := by decide) (hcd : (x == ("__classdict__" : Str)) = false := by decide) :
    PE X (.Dict [some (.Subscript (.Name x p) (.Constant (.int m) j2 p4) p5)] [.Constant (.bool true) j p3] pos) (tO X.K c (own (eDct1 (eIxO i (eC (.int m))) (eC (.bl true))))) :=
  PE_imp (pe_disp (pps_cons (pe_ix ix_list (pe_var hN hv hd hcd) pe_int (fun _ _ => rfl)) pe_bl pps_nil) rfl rfl (by simp) (Nat.le_of_ble_eq_true rfl)) fun σ H Q q => by
    obtain ⟨π, ρ, G, S, k⟩ := q
    unfold own eDct1 eIxO eC at k
    intro p' n
    by_cases hO : isO ρ i = true
    · rw [if_pos hO] at k
      obtain ⟨pa, xs, ws, h1, h2, h3, h4, h5⟩ := isO_of S hO
      simp only [Res.bind_ok, h1] at k
      cases z : opIx (.lst xs) (.int m) with
      | none => rw [z] at k; exact False.elim k
      | some d =>
        rw [z] at k
        obtain ⟨j', e1, e2⟩ := at_len h5.length (show NV.at? xs m = some d from z)
        obtain ⟨v, e3, r⟩ := h5.get e1
        cases d with
        | str y =>
          cases r
          have hq : SqL X.K (upd H p' (.dK [])) pa ws := SqL.of (by rw [upd_ne (ne_of_none h4 n)]; exact h4)
          exact ⟨.ref pa, h2, _, ws, m, _, rfl, rfl, hq, e2 _ e3, dct1_end S n k⟩
        | _ => exact False.elim k
    · rw [if_neg hO] at k
      by_cases hD : isD ρ i = true
      · rw [if_pos hD] at k
        obtain ⟨pa, xs, ws, h1, _⟩ := isD_of S hD
        simp only [Res.bind_ok, h1] at k
        exact False.elim k
      · rw [if_neg hD] at k
        exact False.elim k
end
end NV

set_option Elab.async false
set_option linter.all false
set_option maxRecDepth 100000
set_option maxHeartbeats 4000000
/-! Lay40: sets of texts. -/
namespace NV
open PySem PySem.Spec PyProof.Rows L2
def kyS (e : Int × Value) : Str := match e.2 with | .str k _ => k | _ => Str.empty
def GoodS (P : Program) (w : World) (e : Int × Value) : Prop := ∃ k tk, e.2 = Value.str k tk ∧ e.1 = (strKind P w).hash k
/-- the set of texts at a: S its members, n their number -/
def SetT (P : Program) (w : World) (h : Heap) (a : Addr) (S : Str → Prop) (n : Nat) : Prop :=
  ∃ o es ep t, h.get? a = some o ∧ o.ExactSet ∧ o.data = .set es ep t ∧ (∀ e ∈ es.toList, GoodS P w e) ∧ (es.toList.map kyS).Nodup ∧ (∀ k, S k ↔ k ∈ es.toList.map kyS) ∧
    es.size < scanBound ∧ t.fits es.size = true ∧ es.size = n ∧ Ris t.place.toList ∧ (w.params.followText "set-order" = true ∨ t.led = true)
section
variable {P : Program} {w : World} {h h' : Heap} {a : Addr} {S : Str → Prop} {n : Nat}
theorem SetT.at (R : SetT P w h a S n) (k : ∀ o, h.get? a = some o → h'.get? a = some o) : SetT P w h' a S n := by
  obtain ⟨o, es, ep, t, ho, r⟩ := R
  exact ⟨o, es, ep, t, k o ho, r⟩
theorem SetT.congr {S' : Str → Prop} (R : SetT P w h a S n) (e : ∀ k, S' k ↔ S k) : SetT P w h a S' n := by
  have q : S' = S := funext fun k => propext (e k)
  rw [q]; exact R
theorem goodS_elems {l : List (Int × Value)} (g : ∀ e ∈ l, GoodS P w e) : ElemsOf (strKind P w) l := fun e he => by
  obtain ⟨k, tk, h1, h2⟩ := g e he
  exact ⟨⟨k, by rw [h1]; exact PySem.Froz.is_str k tk, h2⟩, by rw [h1] <;> rfl⟩
theorem goodS_is {e : Int × Value} (g : GoodS P w e) (k : Str) : (strKind P w).is k e.2 = true ↔ kyS e = k := by
  obtain ⟨k0, tk, h1, _⟩ := g
  have e1 : kyS e = k0 := by unfold kyS; rw [h1]
  rw [e1]
  constructor
  · intro q
    rw [h1] at q
    exact (strKind P w).inj _ _ _ (PySem.Froz.is_str k0 tk) q
  · rintro rfl
    rw [h1]; exact PySem.Froz.is_str k0 tk
theorem goodS_mem {l : List (Int × Value)} (g : ∀ e ∈ l, GoodS P w e) (k : Str) : k ∈ l.map kyS ↔ ∃ e ∈ l, (strKind P w).is k e.2 = true := by
  rw [List.mem_map]
  constructor
  · rintro ⟨e, he, q⟩
    exact ⟨e, he, (goodS_is (g e he) k).2 q⟩
  · rintro ⟨e, he, q⟩
    exact ⟨e, he, (goodS_is (g e he) k).1 q⟩
end
section
variable {P : Program} {w : World} {A : Around} {E : Value → Shared → Prop} {s : Shared} {a : Addr} {S : Str → Prop} {n : Nat}
theorem setT_tail {g : Bool → Sem Unit} (hg : ∀ (b : Bool) (s₁ : Shared) (Q' : Unit → Shared → Prop), Q' () s₁ → wpAny (model P w) A (g b) Q' E s₁)
    {o : Obj} {es : Array (Int × Value)} {ep : Nat} {t : SetTable} (ho : s.heap.get? a = some o) (hex : o.ExactSet) (hd : o.data = .set es ep t)
    {es1 : Array (Int × Value)} {t2 : SetTable} {S' : Str → Prop} (g1 : ∀ e ∈ es1.toList, GoodS P w e) (nd1 : (es1.toList.map kyS).Nodup) (m1 : ∀ k, S' k ↔ k ∈ es1.toList.map kyS)
    (hb1 : es1.size < scanBound) (hf2 : t2.fits es1.size = true) (hr : Ris t2.place.toList) (hl : w.params.followText "set-order" = true ∨ t2.led = true) {wasDummy : Bool} {R : Option Bool → Shared → Prop}
    (hR : ∀ h', Heap.SameBut a s.heap h' → SetT P w h' a S' es1.size → R (some true) { s with heap := h' }) :
    wpAny (model P w) A (do
        storeSet a es1 t2
        if (!wasDummy && t2.tooFull) = true then do
            g (relayAll t2 es1 (SetTable.grown es1.size)).2.2
            storeSet a (relayAll t2 es1 (SetTable.grown es1.size)).1 (relayAll t2 es1 (SetTable.grown es1.size)).2.1
            pure (some true)
          else pure (some true)) R E s := by
  refine wpAny_bind (wpAny_storeSet_of ho hd ?_ (fits_of_scanBound hb1))
  have ho1 := store_at (es' := es1) (t' := t2) ho hd
  have sb1 := Heap.SameBut.update s.heap a (Obj.putSet es1 t2)
  split
  · have pm := relayAll_perm t2 es1 (SetTable.grown es1.size)
    have hf3 := relayAll_fits t2 es1 (SetTable.grown es1.size)
    have hr3 := relayAll_ris t2 es1 (SetTable.grown es1.size)
    have hl3 := relayAll_led t2 es1 (SetTable.grown es1.size)
    generalize relayAll t2 es1 (SetTable.grown es1.size) = Z at pm hf3 hr3 hl3 ⊢
    obtain ⟨es2, t3, gave⟩ := Z
    dsimp only at pm hf3 hr3 hl3 ⊢
    have hsz : es2.size = es1.size := by rw [← Array.length_toList, pm.length_eq, Array.length_toList]
    have hb2 : es2.size < scanBound := by rw [hsz]; exact hb1
    refine wpAny_bind (hg _ _ _ ?_)
    refine wpAny_bind (wpAny_storeSet_of ho1 rfl ?_ (fits_of_scanBound hb2))
    have ho2 := store_at (es' := es2) (t' := t3) ho1 rfl
    refine wpAny_pure (hR _ (sb1.trans (Heap.SameBut.update _ a _)) ?_)
    exact ⟨_, es2, _, t3, ho2, hex, rfl, fun e he => g1 e (pm.mem_iff.mp he), (pm.map kyS).nodup_iff.mpr nd1, fun k => (m1 k).trans (pm.map kyS).mem_iff.symm, hb2, hf3, hsz, hr3,
      hl.imp id fun z => by rw [hl3]; exact z⟩
  · exact wpAny_pure (hR _ sb1 ⟨_, es1, _, t2, ho1, hex, rfl, g1, nd1, m1, hb1, hf2, rfl, hr, hl⟩)
theorem setT_add {k : Str} {tk : Tok} {Q : Bool → Shared → Prop} (R : SetT P w s.heap a S n) (room : n + 1 < scanBound)
    (hQ : ∀ h' b c, Heap.SameBut a s.heap h' → c ≤ n + 1 → SetT P w h' a (fun j => S j ∨ j = k) c → Q b { s with heap := h' }) :
    wpAny (model P w) A (setAddHashed a (.str k tk) ((strKind P w).hash k)) Q E s := by
  obtain ⟨o, es, ep, t, ho, hex, hd, g, nd, hm, hb, hf, hn, hr, hl⟩ := R
  have hkey : (strKind P w).is k (.str k tk) = true := PySem.Froz.is_str k tk
  have hsc : (Value.str k tk).scannable = true := rfl
  have hel : ElemsOf (strKind P w) es.toList := goodS_elems g
  unfold setAddHashed setAddHashedIn
  refine wpAny_holding (wpAny_bind (wpAny_setState_of ho hd hf ?_))
  dsimp only
  rw [byScan_of hsc hb hel]
  simp only [↓reduceIte]
  unfold setAddByScan
  refine wpAny_bind ?_
  refine wpAny_bind (wpAny_rule ?_)
  refine wpAny_bind (wpAny_setScan_of hkey ho hd hf hel ?_)
  cases hfi : List.findIdx? (fun e => (strKind P w).is k e.2) es.toList with
  | some j =>
    dsimp only
    obtain ⟨hj, pj, _⟩ := List.findIdx?_eq_some_iff_getElem.mp hfi
    have hSk : S k := (hm k).2 ((goodS_mem (P := P) (w := w) g k).2 ⟨es.toList[j], List.getElem_mem hj, pj⟩)
    refine wpAny_pure (wpAny_pure ?_)
    exact hQ s.heap _ n (Heap.SameBut.refl a s.heap) (Nat.le_succ n) ⟨o, es, ep, t, ho, hex, hd, g, nd, fun i => by
      rw [← hm i]
      exact ⟨fun z => z.elim id (fun e => e ▸ hSk), .inl⟩, hb, hf, hn, hr, hl⟩
  | none =>
    dsimp only
    have hnk : k ∉ es.toList.map kyS := fun z => by
      obtain ⟨e, he, q⟩ := (goodS_mem (P := P) (w := w) g k).1 z
      have c := List.findIdx?_eq_none_iff.mp hfi e he
      rw [q] at c
      cases c
    have hgw : ∀ (b : Bool) {s₁ : Shared} {Q' : Unit → Shared → Prop}, Q' () s₁ → wpAny (model P w) A (match b with | true => rule "set.scan.the-table-gave-way" | false => pure ()) Q' E s₁ :=
      fun b s₁ Q' q => by cases b <;> first | exact wpAny_pure q | exact wpAny_rule q
    have pm := layNew_perm t es ((strKind P w).hash k) (.str k tk)
    have hf1 := layNew_fits t es ((strKind P w).hash k) (.str k tk)
    have hr1 := layNew_ris t es ((strKind P w).hash k) (.str k tk) hr
    have hl1 := layNew_led t es ((strKind P w).hash k) (.str k tk)
    generalize layNew t es ((strKind P w).hash k) (.str k tk) = Z at pm hf1 hr1 hl1 ⊢
    obtain ⟨es1, t1, wasDummy, gave⟩ := Z
    dsimp only at pm hf1 hr1 hl1 ⊢
    rw [Array.toList_push] at pm
    have pc : es1.toList.Perm (((strKind P w).hash k, Value.str k tk) :: es.toList) := pm.trans (List.perm_append_singleton _ _)
    have pk : (es1.toList.map kyS).Perm (k :: es.toList.map kyS) := pc.map kyS
    have g1 : ∀ e ∈ es1.toList, GoodS P w e := fun e he => by
      rcases List.mem_cons.mp (pc.mem_iff.mp he) with z | z
      · rw [z]; exact ⟨k, tk, rfl, rfl⟩
      · exact g e z
    have nd1 : (es1.toList.map kyS).Nodup := pk.nodup_iff.mpr (List.nodup_cons.mpr ⟨hnk, nd⟩)
    have m1 : ∀ i, (S i ∨ i = k) ↔ i ∈ es1.toList.map kyS := fun i => by
      rw [hm i, pk.mem_iff, List.mem_cons]
      exact Or.comm
    have hsz : es1.size = n + 1 := by rw [← Array.length_toList, pc.length_eq, List.length_cons, Array.length_toList, hn]
    have hb1 : es1.size < scanBound := by rw [hsz]; exact room
    have hled : w.params.followText "set-order" = true ∨ t1.led = true := hl.imp id fun z => by rw [hl1]; exact z
    have fin : ∀ h', Heap.SameBut a s.heap h' → SetT P w h' a (fun j => S j ∨ j = k) es1.size → Q true { s with heap := h' } := fun h' sb r => by
      rw [hsz] at r
      exact hQ h' true (n + 1) sb (Nat.le_refl _) r
    refine wpAny_bind (hgw _ ?_)
    split
    · refine wpAny_bind ?_
      rw [hashByValue_scannable 8 hsc]
      refine wpAny_pure ?_
      refine setT_tail ?_ ho hex hd g1 nd1 m1 hb1 ?_ ?_ ?_ ?_
      · intro b s₁ Q' q; cases b <;> first | exact wpAny_pure q | exact wpAny_rule q
      · first | (split <;> first | exact hf1 | exact SetTable.fits_plain_off hf1) | exact hf1
      · first | (split <;> exact hr1) | exact hr1
      · first | (split <;> exact hled) | exact hled
      · intro h' sb r; dsimp only; exact wpAny_pure (fin h' sb r)
    · refine wpAny_bind (wpAny_pure ?_)
      simp only [↓reduceIte]
      refine setT_tail ?_ ho hex hd g1 nd1 m1 hb1 hf1 hr1 hled ?_
      · intro b s₁ Q' q; cases b <;> first | exact wpAny_pure q | exact wpAny_rule q
      · intro h' sb r; dsimp only; exact wpAny_pure (fin h' sb r)
theorem setT_new_at {w : World} {h : Heap} {a : Addr} {ns : List Str} (ho : h.get? a = some { cls := .type "set", dict := none, data := .set #[] 0 (.fresh 0 0 (!w.params.followText "set-order")) }) : SetT P w h a (fun j => j ∈ ns.take 0) 0 :=
  ⟨_, #[], 0, _, ho, ⟨rfl, rfl, rfl⟩, rfl, (fun e he => by simp at he), (by simp), (fun k => by simp), (by decide), (by rfl), rfl, List.Pairwise.nil, by
    show _ ∨ (!w.params.followText "set-order") = true
    cases w.params.followText "set-order"
    · exact .inr rfl
    · exact .inl rfl⟩
theorem setT_update {I : Addr} {fp wr : List Addr} {G : Array GenState → Array GenState → Prop} {n : Nat} {Pv : Nat → Value → Prop} {St : Nat → Shared → Prop} {R : Result → Shared → Prop}
    (W : WalksS P w A.in1 I fp wr G n Pv St) (S : Addr) (hSf : S ∉ fp) (ns : List Str) (hn : n = ns.length) (hb : ns.length + 1 < scanBound) (hval : ∀ i v, Pv i v → ∃ k t, ns[i]? = some k ∧ v = .str k t) :
    ∀ (k i : Nat) (s : Shared), n - i = k → i ≤ n → St i s → (∃ c, c ≤ i ∧ SetT P w s.heap S (fun j => j ∈ ns.take i) c) →
      (∀ s' c, Moved (S :: wr) G s s' → c ≤ n → SetT P w s'.heap S (fun j => j ∈ ns) c → R (.ok (.ret .none)) s') →
      codeAny (model P w) A (.builtin "set.update.loop" ⟨[.ref S, .ref I], []⟩) R s := by
  have hSw : S ∉ wr := fun h => hSf (W.sub _ h)
  have hsub : ∀ b ∈ wr, b ∈ S :: wr := fun b hb => List.mem_cons_of_mem _ hb
  intro k
  induction k with
  | zero =>
    intro i s hk' hi hst ⟨c, hc, hS⟩ hR
    have hin : i = n := by omega
    subst hin
    refine codeAny_builtin F.entry_set_update_loop ?_
    rw [Around.under_plainId F.plain_set_update_loop _]
    show wpAny _ A.in1 (pyNext (.ref I) >>= _) _ _ s
    refine wpAny_bind (W.done s _ _ hst fun s' hm => ?_)
    show wpAny _ A.in1 (ret Value.none) _ _ s'
    have e : ns.take i = ns := List.take_of_length_le (by omega)
    rw [e] at hS
    exact wpAny_pure (hR s' c (hm.mono hsub) hc (hS.at fun o e => hm.heap S o hSw e))
  | succ k ih =>
    intro i s hk' hi hst ⟨c, hc, hS⟩ hR
    have hlt : i < n := by omega
    refine codeAny_builtin F.entry_set_update_loop ?_
    rw [Around.under_plainId F.plain_set_update_loop _]
    show wpAny _ A.in1 (pyNext (.ref I) >>= _) _ _ s
    refine wpAny_bind (W.item i s _ _ hlt hst fun v s' hP hst' hm => ?_)
    obtain ⟨z, t, hz, rfl⟩ := hval i v hP
    have hS' : SetT P w s'.heap S (fun j => j ∈ ns.take i) c := hS.at fun o e => hm.heap S o hSw e
    show wpAny _ A.in1 (holding [Value.str z t] (setAdd S (.str z t)) >>= _) _ _ s'
    refine wpAny_bind (wpAny_holding ?_)
    unfold setAdd
    refine wpAny_holding ?_
    refine wpAny_bind ((strKind P w).pyHash (k := z) (PySem.Froz.is_str z t) ?_)
    refine setT_add (s := { s' with toks := s'.toks + 1 }) hS' (by omega) fun h' b c3 hsb hc3 hS2 => ?_
    have hS3 : SetT P w h' S (fun j => j ∈ ns.take (i + 1)) c3 := hS2.congr fun j => by
      rw [List.take_add_one, hz]
      simp [List.mem_append]
    refine wpAny_pure ⟨plainId_quiet F.plain_set_update_loop _, ih (i + 1) _ (by omega) hlt (W.frame _ s' _ _ hst' (Nat.le_succ _) fun b hb o e => ?_) ⟨_, by omega, hS3⟩ fun s'' c2 hm'' hc'' hS'' => ?_⟩
    · rw [hsb.2 b (fun h : b = S => hSf (by rw [← h]; exact hb))]; exact e
    · refine hR s'' c2 (Moved.trans W.gtrans ((hm.mono hsub).then_heap (Nat.le_succ _) fun b o hb e => ?_) hm'') hc'' hS''
      rw [hsb.2 b (fun h : b = S => hb (by rw [h]; exact List.mem_cons_self))]; exact e
end
end NV

set_option Elab.async false
set_option linter.all false
set_option maxRecDepth 100000
set_option maxHeartbeats 4000000
/-! Lay41: set(a list), set(a text). -/
namespace NV
open PySem PySem.Spec PyProof.Rows L2
def newSO (w : World) : Obj := { cls := .type "set", dict := none, data := .set #[] 0 (.fresh 0 0 (!w.params.followText "set-order")) }
section
variable {P : Program} {w : World} {A : Around} {E : Value → Shared → Prop} {s : Shared}
theorem call_set1 (x : Value) {Q : Value → Shared → Prop}
    (h : wpAny (model P w) A.in1.in1 (Builtin.Frozenset.updateFrom "set.__init__" s.heap.objs.size x) (fun _ s' => Q (.ref s.heap.objs.size) s') E { s with heap := s.heap.push (newSO w) }) :
    wpAny (model P w) A (call (.type "set") [x]) Q E s := by
  obtain ⟨c, tl, hmro⟩ := F.called_set.mro
  have hmade := F.called_set.made
  have hsub := F.called_set.sub
  refine wpAny_call (codeAny_of_tree ?_)
  show wpAny _ _ (callAny (.type "set") _) _ _ _
  refine wpAny_pure ⟨Code.quiet_builtin _ (by decide +kernel), codeAny_builtin F.entry_type_call ?_⟩
  rw [Around.under_plain (weight_type_call_type "set" [x] []) rfl]
  have h1 := F.called_set.notType
  have h2 := F.called_set.canCreate
  have hct := F.typeCall_set_1 x
  repeat (any_goals (first | assumption | wp_step))
  refine codeAny_mono (code_set_led1 x (E := E) (Q₁ := fun obj s₁ => obj = .ref s.heap.objs.size ∧ s₁ = { s with heap := s.heap.push (newSO w) }) ⟨rfl, rfl⟩) fun r s₁ hr => ?_
  cases r with
  | error e => exact hr
  | ok fl =>
    cases fl with
    | ret obj =>
      obtain ⟨rfl, rfl⟩ := hr
      have hS : (s.heap.push (newSO w)).get? s.heap.objs.size = some (newSO w) := Heap.get?_push_size _ rfl
      have hS2 := hS
      unfold newSO at hS2
      have hT : Shared.TypeIs { s with heap := s.heap.push (newSO w) } (.ref s.heap.objs.size) "set" := ⟨_, hS, rfl⟩
      have hli := F.called_set.init.lookup
      have hbi := F.called_set.init.bind (.ref s.heap.objs.size)
      repeat (any_goals (first | assumption | wp_step))
      refine codeAny_mono (codeAny_call_builtin (R := wants (fun r s₂ => r = .none ∧ Q (.ref s.heap.objs.size) s₂) E) F.called_set.init.plain F.entry_set_init (check_set_init_1 hT ?_)) fun r₂ s₂ hr₂ => ?_
      · unfold Builtin.«set.__init__» noKeywords
        generalize hU : Builtin.Frozenset.updateFrom = U at h ⊢
        wp_walk
        exact wpAny_mono h (fun _ s' q => wpAny_pure ⟨rfl, q⟩) (fun e s' q => q)
      · cases r₂ with
        | error e => exact hr₂
        | ok fl₂ =>
          cases fl₂ with
          | ret r =>
            obtain ⟨rfl, hq⟩ := hr₂
            repeat (any_goals (first | assumption | wp_step))
          | _ => exact hr₂.elim
    | _ => exact hr.elim
/-- what the update leaves -/
def Upd1 (s : Shared) (a : Addr) (Z : Heap → Prop) (s' : Shared) : Prop := ∃ h' tk, s' = { s with heap := h', toks := tk } ∧ Z h' ∧ ∀ b o, b ≠ a → s.heap.get? b = some o → h'.get? b = some o
theorem upd_gen {a : Addr} {x : Value} {n : Nat} {Pv : Nat → Value → Prop} {T : String} {Z : Heap → Prop} {Q : Unit → Shared → Prop} (hh : A.handled = none)
    (hany : ∀ (Q' : Bool → Shared → Prop), Q' false s → wpAny (model P w) A (Builtin.Frozenset.isAnySet x) Q' E s)
    (hty : ∀ (Q' : Value → Shared → Prop), Q' (.type T) s → wpAny (model P w) A (typeOf x) Q' E s) (hnd : (Value.type T == Value.type "dict") = false)
    (ha : a < s.heap.objs.size)
    (it : ∀ (Q' : Value → Shared → Prop), (∀ (o : Obj) (fp : List Addr) (St : Nat → Heap → Prop), a ∉ fp → (∀ A' : Around, A'.handled = none → Walks P w A' s.heap.objs.size fp [s.heap.objs.size] n Pv St) → St 0 (s.heap.push o) → Q' (.ref s.heap.objs.size) { s with heap := s.heap.push o }) →
      wpAny (model P w) A (pyIter x) Q' E s)
    (hup : ∀ (A' : Around) (I : Addr) (s0 : Shared) (R : Result → Shared → Prop) (G : Array GenState → Array GenState → Prop) (St : Nat → Shared → Prop) (fp wr : List Addr), WalksS P w A'.in1 I fp wr G n Pv St → a ∉ fp → St 0 s0 →
      s0.heap.get? a = s.heap.get? a → (∀ s', Moved (a :: wr) G s0 s' → Z s'.heap → R (.ok (.ret .none)) s') → codeAny (model P w) A' (.builtin "set.update.loop" ⟨[.ref a, .ref I], []⟩) R s0)
    (hQ : ∀ s', Upd1 s a Z s' → Q () s') :
    wpAny (model P w) A (Builtin.Frozenset.updateFrom "set.__init__" a x) Q E s := by
  unfold Builtin.Frozenset.updateFrom
  refine wpAny_bind (hany _ ?_)
  simp only [Bool.false_eq_true, if_false]
  refine wpAny_bind (hty _ ?_)
  simp only [hnd, Bool.false_eq_true, if_false]
  refine wpAny_bind (it _ fun o fp St hfp W st => ?_)
  have hI : s.heap.objs.size ∉ [a] := by
    rw [List.mem_singleton]; exact Nat.ne_of_gt ha
  refine wpAny_bind (wpAny_runValue ?_)
  refine hup _ _ _ _ _ _ fp _ ((W _ (by simp [hh])).toS) hfp st ?_ fun s' hm hz => ?_
  · show (s.heap.push o).get? a = _
    exact Heap.get?_push_ne _ _ _ (Nat.ne_of_lt ha)
  · refine wpAny_pure (hQ s' ?_)
    obtain ⟨h', g2, d', tk', os'⟩ := s'
    have eg : g2 = s.gens := hm.gens
    have ed : d' = s.drawn := hm.drawn
    have eo : os' = s.os := hm.os
    subst eg; subst ed; subst eo
    refine ⟨h', tk', rfl, hz, fun b u hb e => hm.heap b u (fun z => ?_) (Heap.get?_push_of_some _ e)⟩
    rcases List.mem_cons.mp z with z | z
    · exact hb z
    · have := Heap.lt_size e
      rw [List.mem_singleton.mp z] at this
      exact absurd this (Nat.lt_irrefl _)
end
end NV

set_option Elab.async false
set_option linter.all false
set_option maxRecDepth 100000
set_option maxHeartbeats 4000000
/-! Lay42: sorted(set(x)): plain lists, then the calls. -/
namespace NV
open PySem PySem.Spec PyProof.Rows L2
theorem rising_pw : ∀ (l : List Str) (p : Str), risingS p l = true → l.Pairwise (fun a b => ltCps b.cps.toList a.cps.toList = false) ∧ ∀ x ∈ l, ltCps x.cps.toList p.cps.toList = false
  | [], p, _ => ⟨List.Pairwise.nil, fun x hx => by cases hx⟩
  | y :: r, p, h => by
    rw [risingS] at h
    cases e : ltCps y.cps.toList p.cps.toList with
    | true => rw [e] at h; simp at h
    | false =>
      rw [e] at h
      obtain ⟨h1, h2⟩ := rising_pw r y (by simpa using h)
      refine ⟨List.pairwise_cons.mpr ⟨h2, h1⟩, fun x hx => ?_⟩
      rcases List.mem_cons.mp hx with rfl | hx
      · exact e
      · have h3 := h2 x hx
        rw [ltCps_eq] at e h3 ⊢
        rw [decide_eq_false_iff_not] at e h3 ⊢
        intro z
        rcases tri x.cps.toList y.cps.toList with c | c | c
        · exact h3 c
        · rw [c] at z; exact e z
        · exact e (List.lt_trans c z)
theorem sorted_pw {l : List Str} (h : sortedS l = true) : l.Pairwise (fun a b => ltCps b.cps.toList a.cps.toList = false) := by
  cases l with
  | nil => exact List.Pairwise.nil
  | cons x r =>
    obtain ⟨h1, h2⟩ := rising_pw r x h
    exact List.pairwise_cons.mpr ⟨h2, h1⟩
end NV

set_option Elab.async false
set_option linter.all false
set_option maxRecDepth 100000
set_option maxHeartbeats 4000000
/-! Lay43: sorted(set(x)): the calls. -/
namespace NV
open PySem PySem.Spec PyProof.Rows L2
section
variable {P : Program} {w : World} {A : Around} {E : Value → Shared → Prop} {s : Shared}
theorem push_set {b : Addr} {o : Obj} (e : s.heap.get? b = some o) : (s.heap.push (newSO w)).get? b = some o := Heap.get?_push_of_some _ e
theorem list_iters {l a : Addr} {items : Array Value} (hl : s.heap.IsList l items) (hla : a ≠ l) (ha : a < s.heap.objs.size) : ∀ (Q' : Value → Shared → Prop), (∀ (o : Obj) (fp : List Addr) (St : Nat → Heap → Prop), a ∉ fp → (∀ A' : Around, A'.handled = none → Walks P w A' s.heap.objs.size fp [s.heap.objs.size] items.size (fun i v => items[i]? = some v) St) → St 0 (s.heap.push o) → Q' (.ref s.heap.objs.size) { s with heap := s.heap.push o }) →
      wpAny (model P w) A (pyIter (.ref l)) Q' E s := fun Q' h => by
  obtain ⟨ol, hol, hcl, nl, hdl⟩ := id hl
  have hlt : l < s.heap.objs.size := Heap.lt_size hol
  refine wpAny_pyIter_list hl (h _ _ _ (fun z => ?_) (fun A' hA => Walks.list hA s.heap.objs.size l (Nat.ne_of_lt hlt) items) ⟨⟨_, Heap.get?_push_size _ rfl, rfl, rfl⟩, hl.push _⟩)
  simp only [List.mem_cons, List.not_mem_nil, or_false] at z
  rcases z with z | z
  · exact absurd ha (by rw [z]; exact Nat.lt_irrefl _)
  · exact hla z
theorem any_list {l : Addr} {items : Array Value} (hl : s.heap.IsList l items) : ∀ (Q' : Bool → Shared → Prop), Q' false s → wpAny (model P w) A (Builtin.Frozenset.isAnySet (.ref l)) Q' E s := fun Q' h => by
  obtain ⟨ol, hol, hcl, nl, hdl⟩ := hl
  unfold Builtin.Frozenset.isAnySet orM
  refine wpAny_bind (wpAny_isInstance (T := "list") ⟨ol, hol, hcl⟩ F.sub_list_set ?_)
  show wpAny _ _ (isInstance (.ref l) (.type "frozenset")) _ _ s
  exact wpAny_isInstance (T := "list") ⟨ol, hol, hcl⟩ F.sub_list_frozenset h
theorem ty_list {l : Addr} {items : Array Value} (hl : s.heap.IsList l items) : ∀ (Q' : Value → Shared → Prop), Q' (.type "list") s → wpAny (model P w) A (typeOf (.ref l)) Q' E s := fun Q' h => by
  obtain ⟨ol, hol, hcl, nl, hdl⟩ := hl
  exact wpAny_typeOf (T := "list") ⟨ol, hol, hcl⟩ h
theorem in2_hd (hh : A.handled = none) : A.in1.in1.handled = none := by simp [hh]
/-- set(a list of numbers) -/
theorem call_setI {l : Addr} {items : Array Value} {ns : List Int} {Q : Value → Shared → Prop} (hh : A.handled = none) (hl : s.heap.IsList l items) (hit : IntsAre items.toList ns) (hb : ns.length + 1 < scanBound)
    (h : ∀ (h' : Heap) (tk c : Nat), SetR w h' s.heap.objs.size (fun j => decide (j ∈ ns)) c → c ≤ ns.length → (∀ b o, s.heap.get? b = some o → h'.get? b = some o) → Q (.ref s.heap.objs.size) { s with heap := h', toks := tk }) :
    wpAny (model P w) A (call (.type "set") [.ref l]) Q E s := by
  have hisz : items.size = ns.length := by
    have q := IntsAre.length hit
    rw [Array.length_toList] at q
    exact q
  have hl1 : (s.heap.push (newSO w)).IsList l items := hl.push _
  have hlt : l < s.heap.objs.size := by
    obtain ⟨o, ho, _⟩ := hl
    exact Heap.lt_size ho
  have hS : (s.heap.push (newSO w)).get? s.heap.objs.size = some (newSO w) := Heap.get?_push_size _ rfl
  have hval : ∀ (i : Nat) (v : Value), items[i]? = some v → ∃ k t, ns[i]? = some k ∧ v = .int k t := fun i v hv => by
    have hi : i < ns.length := by rw [← hisz]; exact (Array.getElem?_eq_some_iff.mp hv).1
    obtain ⟨t, e⟩ := PyProof.Rows.IntsAre.int_at hit i v (by rw [Array.getElem?_toList]; exact hv)
    refine ⟨ns[i], t, List.getElem?_eq_getElem hi, ?_⟩
    rw [e, List.getD_eq_getElem?_getD, List.getElem?_eq_getElem hi] <;> rfl
  refine call_set1 _ (upd_gen (s := { s with heap := s.heap.push (newSO w) }) (T := "list") (Z := fun h' => ∃ c, c ≤ ns.length ∧ SetR w h' s.heap.objs.size (fun j => decide (j ∈ ns)) c) (in2_hd hh) (any_list hl1) (ty_list hl1) (by decide) (Heap.lt_size hS)
    (list_iters hl1 (Nat.ne_of_gt hlt) (Heap.lt_size hS)) (fun A' I s0 R G St fp wr W hfp st e hR => ?_) fun s' hU => ?_)
  · refine set_update_ints W s.heap.objs.size hfp ns hisz hb hval items.size 0 s0 (by omega) (Nat.zero_le _) st ⟨0, Nat.le_refl 0, setR_new_at (e.trans hS)⟩ fun s' c hm hc hS' => ?_
    exact hR s' hm ⟨c, by omega, hS'⟩
  · obtain ⟨h', tk, rfl, ⟨c, hc, hS'⟩, k⟩ := hU
    exact h h' tk c hS' hc fun b o e => k b o (Nat.ne_of_lt (Heap.lt_size e)) (push_set e)
/-- set(a list of texts) -/
theorem call_setL {l : Addr} {items : Array Value} {ns : List Str} {Q : Value → Shared → Prop} (hh : A.handled = none) (hl : s.heap.IsList l items) (hit : StrsAre items.toList ns) (hb : ns.length + 1 < scanBound)
    (h : ∀ (h' : Heap) (tk c : Nat), SetT P w h' s.heap.objs.size (fun j => j ∈ ns) c → c ≤ ns.length → (∀ b o, s.heap.get? b = some o → h'.get? b = some o) → Q (.ref s.heap.objs.size) { s with heap := h', toks := tk }) :
    wpAny (model P w) A (call (.type "set") [.ref l]) Q E s := by
  have hisz : items.size = ns.length := by
    have q := StrsAre.length hit
    rw [Array.length_toList] at q
    exact q
  have hl1 : (s.heap.push (newSO w)).IsList l items := hl.push _
  have hlt : l < s.heap.objs.size := by
    obtain ⟨o, ho, _⟩ := hl
    exact Heap.lt_size ho
  have hS : (s.heap.push (newSO w)).get? s.heap.objs.size = some (newSO w) := Heap.get?_push_size _ rfl
  have hval : ∀ (i : Nat) (v : Value), items[i]? = some v → ∃ k t, ns[i]? = some k ∧ v = .str k t := fun i v hv => by
    have hi : i < ns.length := by rw [← hisz]; exact (Array.getElem?_eq_some_iff.mp hv).1
    obtain ⟨t, e⟩ := SS.strs_at hit i v (by rw [Array.getElem?_toList]; exact hv)
    refine ⟨ns[i], t, List.getElem?_eq_getElem hi, ?_⟩
    rw [e, List.getD_eq_getElem?_getD, List.getElem?_eq_getElem hi] <;> rfl
  refine call_set1 _ (upd_gen (s := { s with heap := s.heap.push (newSO w) }) (T := "list") (Z := fun h' => ∃ c, c ≤ ns.length ∧ SetT P w h' s.heap.objs.size (fun j => j ∈ ns) c) (in2_hd hh) (any_list hl1) (ty_list hl1) (by decide) (Heap.lt_size hS)
    (list_iters hl1 (Nat.ne_of_gt hlt) (Heap.lt_size hS)) (fun A' I s0 R G St fp wr W hfp st e hR => ?_) fun s' hU => ?_)
  · refine setT_update W s.heap.objs.size hfp ns hisz hb hval items.size 0 s0 (by omega) (Nat.zero_le _) st ⟨0, Nat.le_refl 0, setT_new_at (e.trans hS)⟩ fun s' c hm hc hS' => ?_
    exact hR s' hm ⟨c, by omega, hS'⟩
  · obtain ⟨h', tk, rfl, ⟨c, hc, hS'⟩, k⟩ := hU
    exact h h' tk c hS' hc fun b o e => k b o (Nat.ne_of_lt (Heap.lt_size e)) (push_set e)
/-- the signs of a text, each a text -/
def sgnsS (x : Str) : List Str := x.cps.toList.map fun c => ⟨#[c]⟩
theorem call_setS {x : Str} {t : Tok} {Q : Value → Shared → Prop} (hh : A.handled = none) (hb : x.cps.size + 1 < scanBound)
    (h : ∀ (h' : Heap) (tk c : Nat), SetT P w h' s.heap.objs.size (fun j => j ∈ sgnsS x) c → c ≤ x.cps.size → (∀ b o, s.heap.get? b = some o → h'.get? b = some o) → Q (.ref s.heap.objs.size) { s with heap := h', toks := tk }) :
    wpAny (model P w) A (call (.type "set") [.str x t]) Q E s := by
  have hisz : x.cps.size = (sgnsS x).length := by rw [sgnsS, List.length_map, Array.length_toList]
  have hS : (s.heap.push (newSO w)).get? s.heap.objs.size = some (newSO w) := Heap.get?_push_size _ rfl
  have hval : ∀ (i : Nat) (v : Value), SignAt x i v → ∃ k t, (sgnsS x)[i]? = some k ∧ v = .str k t := fun i v hv => by
    obtain ⟨c, u, e, rfl⟩ := hv
    refine ⟨_, u, ?_, rfl⟩
    rw [sgnsS, List.getElem?_map, Array.getElem?_toList, e]; rfl
  refine call_set1 _ (upd_gen (s := { s with heap := s.heap.push (newSO w) }) (T := "str") (Pv := SignAt x) (n := x.cps.size) (Z := fun h' => ∃ c, c ≤ x.cps.size ∧ SetT P w h' s.heap.objs.size (fun j => j ∈ sgnsS x) c) (in2_hd hh) (fun Q' q => Fz.anySet q) (fun Q' q => wpAny_typeOf (typeIs_str _ _ _) q) (by decide) (Heap.lt_size hS)
    (fun Q' q => wpAny_pyIter_str fun o St W st => q o _ St (by rw [List.mem_singleton]; exact Nat.ne_of_lt (Heap.lt_size hS)) W st) (fun A' I s0 R G St fp wr W hfp st e hR => ?_) fun s' hU => ?_)
  · refine setT_update W s.heap.objs.size hfp (sgnsS x) hisz (by rw [← hisz]; exact hb) hval x.cps.size 0 s0 (by omega) (Nat.zero_le _) st ⟨0, Nat.le_refl 0, setT_new_at (e.trans hS)⟩ fun s' c hm hc hS' => ?_
    exact hR s' hm ⟨c, hc, hS'⟩
  · obtain ⟨h', tk, rfl, ⟨c, hc, hS'⟩, k⟩ := hU
    exact h h' tk c hS' hc fun b o e => k b o (Nat.ne_of_lt (Heap.lt_size e)) (push_set e)
theorem strs_of : ∀ (l : List Value), (∀ v ∈ l, ∃ k tk, v = Value.str k tk) → StrsAre l (l.map strOf)
  | [], _ => .nil
  | v :: l, h => by
    obtain ⟨k, tk, rfl⟩ := h v List.mem_cons_self
    exact .cons k tk (strs_of l fun u hu => h u (List.mem_cons_of_mem _ hu))
/-- sorted(a set of texts) -/
theorem sorted_setT {a : Addr} {S : Str → Prop} {n : Nat} {Q : Value → Shared → Prop} (R : SetT P w s.heap a S n) (hh : A.handled = none)
    (hQ : ∀ s' p (out : Array Value) (c : Nat) (ns : List Str), (∀ b o, s.heap.get? b = some o → s'.heap.get? b = some o) → s'.gens = s.gens → s'.os = s.os → s.heap.objs.size ≤ p →
      s'.heap.get? p = some (seqObj "list" out c) → StrsAre out.toList ns → sortedS ns = true → ns.Nodup → (∀ k, k ∈ ns ↔ S k) → ns.length ≤ scanBound → Q (.ref p) s') :
    wpAny (model P w) A (call (.builtin "sorted") [.ref a]) Q E s := by
  obtain ⟨o, es, ep, t, ho, hex, hd, g, nd, hm, hb, hf, hn, hr, hl⟩ := R
  refine Calls.call_function_entry kind_sorted plain_sorted entry_sorted (args_sorted1 _) ?_
  unfold Builtin.«sorted»
  refine wpAny_bind (m := checkCount "sorted" 1 1 _) (wpAny_pure ?_)
  refine wpAny_bind (collect_set (A := A.in1) hh ⟨o, ho, hex.1, hd⟩ hf hb hr hl fun s1 vs k1 hz g1 o1 pm => ?_)
  have hvl : vs.length = n := by rw [pm.length_eq, List.length_map, Array.length_toList]; exact hn
  have hn2 : n < scanBound := by rw [← hn]; exact hb
  have hsl : vs.length ≤ sizeLine := by rw [hvl]; exact fits_of_scanBound hn2
  have hI : StrsAre vs (vs.map strOf) := strs_of vs fun v hv => by
    obtain ⟨e, he, q⟩ := List.mem_map.mp (pm.mem_iff.mp hv)
    obtain ⟨k, tk, h1, _⟩ := g e he
    exact ⟨k, tk, by rw [← q]; exact h1⟩
  have pk : (vs.map strOf).Perm (es.toList.map kyS) := by
    have q := pm.map strOf
    rw [List.map_map] at q
    exact q
  refine wpAny_bind (wpAny_newList ?_ hsl)
  have hoL : (s1.heap.push (seqObj "list" vs.toArray 0)).get? s1.heap.objs.size = some (seqObj "list" vs.toArray 0) := Heap.get?_push_size _ rfl
  refine wpAny_bind (wpAny_holding (wpAny_call_entry slot_list_sort ⟨_, hoL, rfl⟩ entry_list_sort (list_sort_treeKAny strKind_oneLt hoL hI.keysOf (fun v₁ v₂ rest e => keyKind_strs (by rw [← e]; exact hI)) hsl fun st' hp hs => ⟨_, rfl, ?_⟩) (args_list_sort _)))
  obtain ⟨ss', a1, a2, a3⟩ := sorted_out_str hI hp hs
  obtain ⟨c, hc⟩ := sortedHeap_at (vs := vs) (out := (arrOf st').map (·.2)) hoL
  have pn : ss'.Perm (es.toList.map kyS) := a2.trans pk
  refine wpAny_pure ⟨_, rfl, hQ _ s1.heap.objs.size _ c ss' (fun b u e => ?_) g1 o1 hz hc a1 a3 (pn.nodup_iff.mpr nd) (fun k => by rw [pn.mem_iff, ← hm k]) ?_⟩
  · have q := k1 b u e
    have hlt := Heap.lt_size q
    show (sortedHeap (s1.heap.push (seqObj "list" vs.toArray 0)) s1.heap.objs.size vs _).get? b = some u
    rw [sortedHeap_old (Nat.ne_of_lt hlt) (by rw [size_push']; exact Nat.lt_succ_of_lt hlt)]
    exact Heap.get?_push_of_some _ q
  · rw [pn.length_eq, List.length_map, Array.length_toList]
    exact Nat.le_of_lt hb
end
end NV

set_option Elab.async false
set_option linter.all false
set_option maxRecDepth 100000
set_option maxHeartbeats 4000000
/-! Lay44: sorted(set(x)): the rules. -/
namespace NV
open PySem PySem.Spec PyProof.Rows L2
def SetTO (P : Program) (w : World) (a : Addr) (S : Str → Prop) (n : Nat) : HO := .ext fun h => SetT P w h a S n
theorem setTO_new {w : World} {P : Program} {H : Hp} {h : Heap} {a : Addr} {S : Str → Prop} {n : Nat} (R : SetT P w h a S n) : ObjOk P w H h a (SetTO P w a S n) := by
  have ⟨o, _, _, _, ho, _⟩ := R
  exact ⟨R, ⟨o, ho⟩, fun h1 h2 p k => SetT.at p k⟩
section
variable {X : Cx}
theorem setTO_get {pins : List (Addr × Obj)} {σ : St} {H : Hp} {s : Shared} {a : Addr} {S : Str → Prop} {n : Nat} (I : Inv X pins σ H s) (ha : H a = some (SetTO X.prog X.w a S n)) : SetT X.prog X.w s.heap a S n := (I.hok a _ ha).1
def rSetI (w : World) (K : PySem.W.Frag) : List V → Hp → VK → Prop := fun vs H Q => ∃ (l : Addr) (ns : List Int), vs = [.ref l] ∧ SqL K H l (ns.map V.int) ∧ ns.length + 1 < scanBound ∧
  ∀ p c, H p = none → c ≤ ns.length → Q (.ref p) (upd H p (SetO w p (fun j => decide (j ∈ ns)) c))
def rSetL (P : Program) (w : World) (K : PySem.W.Frag) : List V → Hp → VK → Prop := fun vs H Q => ∃ (l : Addr) (ns : List Str), vs = [.ref l] ∧ SqL K H l (ns.map V.str) ∧ ns.length + 1 < scanBound ∧
  ∀ p c, H p = none → Q (.ref p) (upd H p (SetTO P w p (fun j => j ∈ ns) c))
def rSetS (P : Program) (w : World) : List V → Hp → VK → Prop := fun vs H Q => ∃ x : Str, vs = [.str x] ∧ x.cps.size + 1 < scanBound ∧
  ∀ p c, H p = none → Q (.ref p) (upd H p (SetTO P w p (fun j => j ∈ sgnsS x) c))
theorem cr_setI (hc : X.calm = true) : CallR X (.type "set") (rSetI X.w X.K) := by
  intro pins s σ H vs us Q I r h
  obtain ⟨l, ns, rfl, hs, hb, q⟩ := h
  obtain ⟨its, rv, hl, hz⟩ := I.list hs
  rw [Vals.ref1 r]
  refine call_setI (I.ok.hd hc) hl.isList rv.ints hb fun h' tk c R hc' k => ?_
  exact ⟨.ref _, upd H s.heap.objs.size (SetO X.w s.heap.objs.size (fun j => decide (j ∈ ns)) c), I.laid (t' := tk) k (Nat.le_refl _) (setO_new R), rfl, q _ c (I.hok.fresh (Nat.le_refl _)) hc'⟩
theorem cr_setL (hc : X.calm = true) : CallR X (.type "set") (rSetL X.prog X.w X.K) := by
  intro pins s σ H vs us Q I r h
  obtain ⟨l, ns, rfl, hs, hb, q⟩ := h
  obtain ⟨its, rv, hl, hz⟩ := I.list hs
  rw [Vals.ref1 r]
  refine call_setL (I.ok.hd hc) hl.isList rv.strs hb fun h' tk c R hc' k => ?_
  exact ⟨.ref _, upd H s.heap.objs.size (SetTO X.prog X.w s.heap.objs.size (fun j => j ∈ ns) c), I.laid (t' := tk) k (Nat.le_refl _) (setTO_new R), rfl, q _ c (I.hok.fresh (Nat.le_refl _))⟩
theorem cr_setS (hc : X.calm = true) : CallR X (.type "set") (rSetS X.prog X.w) := by
  intro pins s σ H vs us Q I r h
  obtain ⟨x, rfl, hb, q⟩ := h
  cases r with
  | cons r rt =>
    cases rt
    obtain ⟨t, rfl⟩ := r
    refine call_setS (I.ok.hd hc) hb fun h' tk c R hc' k => ?_
    exact ⟨.ref _, upd H s.heap.objs.size (SetTO X.prog X.w s.heap.objs.size (fun j => j ∈ sgnsS x) c), I.laid (t' := tk) k (Nat.le_refl _) (setTO_new R), rfl, q _ c (I.hok.fresh (Nat.le_refl _))⟩
def rSortedT (P : Program) (w : World) : List V → Hp → VK → Prop := fun vs H Q => ∃ (a : Addr) (S : Str → Prop) (n : Nat), vs = [V.ref a] ∧ H a = some (SetTO P w a S n) ∧
  ∀ (ns : List Str) (p : Addr), sortedS ns = true → ns.Nodup → (∀ k, k ∈ ns ↔ S k) → H p = none → Q (.ref p) (upd H p (.lst (ns.map V.str)))
theorem cr_sortedT (hc : X.calm = true) : CallR X (.builtin "sorted") (rSortedT X.prog X.w) := by
  intro pins s σ H vs us Q I r h
  obtain ⟨a, S, n, rfl, ha, q⟩ := h
  have R := setTO_get I ha
  rw [Vals.ref1 r]
  refine sorted_setT R (I.ok.hd hc) fun s' p out c ns k g o hp hg hi hs hd hm hl => ?_
  have hlen : (ns.map V.str).length ≤ sizeLine := by
    rw [List.length_map, sizeLine_eq]
    unfold scanBound at hl
    omega
  have hn : H p = none := I.hok.fresh hp
  have J : Inv X pins σ (upd H p (.lst (ns.map V.str))) { s with heap := s'.heap, gens := s'.gens, drawn := s'.drawn, toks := s'.toks } :=
    I.call (ch := []) (Un.laid k hp hn) (I.hok.laid k hp ⟨hlen, out.toList, c, vals_of_strs hi, hg⟩) (by rw [g]; exact I.bare) (fun _ z => nomatch z)
  have e : s' = { s with heap := s'.heap, gens := s'.gens, drawn := s'.drawn, toks := s'.toks } := by
    cases s'
    cases s
    cases o
    rfl
  rw [e]
  exact ⟨.ref p, _, J, rfl, q ns p hs hd hm hn⟩
end
theorem pw_S {ns : List Str} (h : sortedS ns = true) (nd : ns.Nodup) : (ns.map fun x => x.cps.toList).Pairwise (fun a b => ltS a b = true) := by
  refine List.pairwise_map.mpr ?_
  refine (sorted_pw h).imp₂ (fun a b h1 h2 => ?_) nd
  rw [ltCps_eq, decide_eq_false_iff_not] at h1
  unfold ltS
  rw [decide_eq_true_eq]
  rcases tri a.cps.toList b.cps.toList with c | c | c
  · exact c
  · exact absurd (by rw [str_ofL a, str_ofL b, c]) h2
  · exact absurd c h1
theorem setS_eq {ns : List Str} {ss : List (List Nat)} (h : sortedS ns = true) (nd : ns.Nodup) (hm : ∀ k, k ∈ ns ↔ k ∈ ss.map ofL) : ns = (setO ltS ss).map ofL := by
  have e := setO_of sto_S (l := ss) (pw_S h nd) fun z => by
    constructor
    · intro hz
      obtain ⟨x, hx, rfl⟩ := List.mem_map.mp hz
      obtain ⟨s, hs, e⟩ := List.mem_map.mp ((hm x).mp hx)
      rw [← e, ofL_cps]; exact hs
    · intro hz
      exact List.mem_map.mpr ⟨ofL z, (hm _).mpr (List.mem_map_of_mem hz), ofL_cps z⟩
  rw [← e, List.map_map]
  conv => lhs; rw [← List.map_id ns]
  exact List.map_congr_left fun x _ => str_ofL x
theorem setI_eq {ms ns : List Int} (h : ms.Pairwise (· < ·)) (hm : ∀ k, k ∈ ms ↔ decide (k ∈ ns) = true) : ms = setO ltI ns := setO_of sto_I (h.imp fun h => by unfold ltI; exact decide_eq_true h) fun z => by rw [hm, decide_eq_true_eq]
theorem sgns_ofL (s : List Nat) : sgnsS (ofL s) = (s.map fun c => [c]).map ofL := by
  unfold sgnsS
  rw [ofL_cps, List.map_map]; rfl
theorem reps_strL {K : PySem.W.Frag} {G : Hp} : ∀ ss : List (List Nat), Reps K G ((ss.map ofL).map V.str) (ss.map D.str)
  | [] => .nil
  | s :: r => .cons (.str s) (reps_strL r)
theorem reps_intL {K : PySem.W.Frag} {G : Hp} : ∀ ns : List Int, Reps K G (ns.map V.int) (ns.map D.int)
  | [] => .nil
  | s :: r => .cons (.int s) (reps_intL r)
section
variable {X : Cx} {c : Lv} {a : Expr} {f : Ev} {pos pos2 p p2 : Pos}
theorem ro_sortSet (hc : X.calm = true) (hg : Gl X "sorted") (hm : X.mg "sorted" = none) (hg2 : Gl X "set") (hm2 : X.mg "set" = none) (ha : PE X a (tE X.K c f)) (hs : starEach [a] X.env = (false, eval a X.env) :: starEach [] X.env := by rfl)
    (hs2 : starEach [.Call (.Name "set" p2) [a] [] pos2] X.env = (false, eval (.Call (.Name "set" p2) [a] [] pos2) X.env) :: starEach [] X.env := by rfl) :
    PE X (.Call (.Name "sorted" p) [.Call (.Name "set" p2) [a] [] pos2] [] pos) (tO X.K c (own (e1 opSortSet f))) := by
  refine PE_imp (pe_callB (id := "sorted") callr_U hg hm rfl (pa_cons (pe_callTy (T := "set") callr_U hg2 hm2 rfl (pa_cons ha pa_nil hs) (by decide) (by decide) hs rfl) pa_nil hs2) (by decide) (by decide) hs2 rfl) fun σ H Q q => ?_
  obtain ⟨π, ρ, G, S, k⟩ := q
  unfold own e1 at k
  rw [Res.bind_bind] at k
  refine ⟨π, ρ, G, S, (Po.bind k).mono fun d1 ρ1 G1 H1 _ e1 S1 k1 w1 r1 => ?_⟩
  have fin : ∀ (p1 : Addr) (o : HO) (p2 : Addr) (ds : List D) (ws : List V), H1 p1 = none → (upd H1 p1 o) p2 = none → Reps X.K G1 ws ds →
      (Po X.K c π ρ1 G1 σ H1 (.ok (.o (.lst ds)) ρ1) fun r ρ' G' H' => ∀ w, RR X.K ρ σ H ρ' σ G' H' r w → Q w H') → Q (.ref p2) (upd (upd H1 p1 o) p2 (.lst ws)) := fun p1 o p2 ds ws n1 n2 rs kk => by
    obtain ⟨S2, e2⟩ := S1.grow (Grow.apart (o := o) S1.sub n1)
    exact own_new S2 (e1.trans e2) (kk.step (Same.refl _) e2) rs p2 n2
  cases r1 with
  | @lst pa ws ds h1 h2 =>
    simp only [opSortSet] at k1
    cases z : intsD ds with
    | some ns =>
      rw [z] at k1
      dsimp only at k1
      split at k1
      · rename_i hl
        have ew := ints_vals h2 z
        subst ew
        refine rUC_of (cr_setI hc) ⟨_, ns, rfl, SqL.of (S1.sub _ _ h1), by unfold scanBound; omega, fun p1 n n1 hn => ?_⟩
        refine rUC_of (cr_sortedSet hc) ⟨p1, _, n, rfl, upd_same, by omega, fun ms p2 hp hm hlen n2 => ?_⟩
        rw [setI_eq hp hm]
        exact fin p1 _ p2 _ _ n1 n2 (reps_intL _) k1
      · exact False.elim k1
    | none =>
      rw [z] at k1
      dsimp only at k1
      cases z2 : strsD ds with
      | none => rw [z2] at k1; exact False.elim k1
      | some ss =>
        rw [z2] at k1
        dsimp only at k1
        split at k1
        · rename_i hl
          have ew := strs_vals h2 z2
          subst ew
          refine rUC_of (cr_setL hc) ⟨_, ss.map ofL, rfl, SqL.of (S1.sub _ _ h1), by rw [List.length_map]; unfold scanBound; omega, fun p1 n n1 => ?_⟩
          refine rUC_of (cr_sortedT hc) ⟨p1, _, n, rfl, upd_same, fun ms p2 hp hd hm n2 => ?_⟩
          rw [setS_eq hp hd hm]
          exact fin p1 _ p2 _ _ n1 n2 (reps_strL _) k1
        · exact False.elim k1
  | str s =>
    simp only [opSortSet] at k1
    split at k1
    · rename_i hl
      refine rUC_of (cr_setS hc) ⟨ofL s, rfl, by show s.toArray.size + 1 < scanBound; rw [List.size_toArray]; unfold scanBound; omega, fun p1 n n1 => ?_⟩
      refine rUC_of (cr_sortedT hc) ⟨p1, _, n, rfl, upd_same, fun ms p2 hp hd hm n2 => ?_⟩
      rw [sgns_ofL] at hm
      rw [setS_eq hp hd hm]
      exact fin p1 _ p2 _ _ n1 n2 (reps_strL _) k1
    · exact False.elim k1
  | _ => exact False.elim k1
end
end NV

set_option Elab.async false
set_option linter.all false
set_option maxRecDepth 100000
set_option maxHeartbeats 4000000
/-! Lay45: text.replace('abcd'[i], 'abcd'[j]); strip, find. -/
namespace NV
open PySem PySem.Spec PyProof.Rows L2
theorem repl_one (c d : Nat) : ∀ l : List Nat, StrLaws.replL [c] [d] l = l.map fun a => if a = c then d else a
  | [] => by rw [StrLaws.replL_nil]; rfl
  | a :: r => by
    have ih := repl_one c d r
    by_cases h : a = c
    · rw [StrLaws.replL_hit (by simp) (by simp [h])]
      simp only [List.length_singleton, List.drop_succ_cons, List.drop_zero]
      rw [ih, List.map_cons, if_pos h]; rfl
    · rw [StrLaws.replL_miss (by simpa using h), ih, List.map_cons, if_neg h]
theorem replace_ofL (s : List Nat) (c d : Nat) : Txt.replace (ofL s) (ofL [c]) (ofL [d]) = ofL (s.map fun a => if a = c then d else a) := by
  have h := StrLaws.replace_list (x := ofL s) (y := ofL [c]) (z := ofL [d]) (by rw [ofL_len]; exact Nat.le_refl 1)
  rw [ofL_cps, ofL_cps, ofL_cps, repl_one] at h
  rw [str_ofL (Txt.replace (ofL s) (ofL [c]) (ofL [d])), h]
section
variable {X : Cx} {b : Expr} {tb : TE} {pos c0 : Pos} {j : Nat}
/-- 'abcd'[b]: its token is a new one -/
theorem sub_tok (hb : PE X b tb) (hs : PlainIx b) {z : Str} {pins : List (Addr × Obj)} {s : Shared} {σ : St} {H : Hp} (hz : z.length ≤ sizeLine) (J : Nat → Hp → Prop) (I : Inv X pins σ H s)
    (h : tb σ H fun y H1 => ∃ i c, y = .int i ∧ atI z.cps.toList i = some c ∧ J c H1) :
    wpAny (model X.prog X.w) X.A (eval (.Subscript (.Constant (.str z) j c0) b pos) X.env) (fun v s' => ∃ c t H1, v = .str ⟨#[c]⟩ t ∧ s.toks < t ∧ t < s'.toks ∧ Inv X pins σ H1 s' ∧ J c H1) X.xe s := by
  refine Subscript_ (Calls.Constant_str ?_)
  refine wpAny_mono (PySem.wpAny_toks (hb.run pins _ σ H _ (I.tok _) h)) (fun u s2 q => ?_) fun _ _ x => x.2
  obtain ⟨hk, y, H2, I2, ry, i, c, rfl, he, q⟩ := q
  obtain ⟨t', rfl⟩ := ry
  have hk : s.toks + 1 ≤ s2.toks := hk
  obtain ⟨k, h1, h2, h3, h4, h5⟩ := atI_get he
  have hl : z.cps.toList.length = z.length := by simp [Str.length]
  rw [hl] at h1 h4 h5
  have hn := line63
  exact tail_any (typeIs_str s2 z s.toks) slot_str_getitem.lookup (getItem_str (c := c) (by
    have e1 : decide (i < -(2 ^ 63 : Int)) = false := decide_eq_false (by omega)
    have e2 : decide (i ≥ 2 ^ 63) = false := decide_eq_false (by omega)
    rw [e1, e2, Bool.or_false]) (by rw [h1]; simpa using h2) ⟨c, s2.toks, H2, rfl, hk, Nat.lt_succ_self _, I2.tok _, q⟩) (hs _ _)
end
section
variable {X : Cx} {c : Lv} {a b b2 : Expr} {f h h2 : Ev} {pos apos p1 p2 c0 c1 : Pos} {j k : Nat} {z : Str} {l : List Nat}
theorem re_repl (hz : z = ofL l) (hl : l.length ≤ line) (ha : PE X a (tE X.K c f)) (hb : PE X b (tE X.K c h)) (hb2 : PE X b2 (tE X.K c h2)) (hp : PlainIx b := by exact fun _ _ => rfl) (hp2 : PlainIx b2 := by exact fun _ _ => rfl)
    (hst : starEach [.Subscript (.Constant (.str z) j c0) b p1, .Subscript (.Constant (.str z) k c1) b2 p2] X.env = [(false, eval (.Subscript (.Constant (.str z) j c0) b p1) X.env), (false, eval (.Subscript (.Constant (.str z) k c1) b2 p2) X.env)] := by rfl)
    (hbase : attributeBase a "replace" X.env (eval a X.env) = eval a X.env := by rfl) (hline : (apos.endLine == pos.line) = true := by rfl) :
    PE X (.Call (.Attribute a "replace" apos) [.Subscript (.Constant (.str z) j c0) b p1, .Subscript (.Constant (.str z) k c1) b2 p2] [] pos) (tE X.K c (eRepl l f h h2)) := by
  subst hz
  refine ⟨fun pins s σ H Q I q => ?_⟩
  obtain ⟨π, ρ, G, S, q⟩ := q
  have hzl : (ofL l).length ≤ sizeLine := by rw [ofL_len, ← line_eq]; exact hl
  have at_ : ∀ {d e : D}, opIx (.str l) d = some e → ∃ i k, d = .int i ∧ e = .str [k] ∧ atI (ofL l).cps.toList i = some k := fun {d e} h => by
    cases d with
    | int i =>
      rw [opIx, if_pos hl] at h
      cases ec : NV.at? l i with
      | none => rw [ec] at h; cases h
      | some k =>
        rw [ec] at h
        obtain rfl : D.str [k] = e := Option.some.inj h
        exact ⟨i, k, rfl, rfl, by rw [ofL_cps]; exact ec⟩
    | _ => simp [opIx] at h
  let J1 : VK := fun w1 H1 => ∃ x ρ1 G1, SE X.K π ρ1 G1 σ H1 ∧ w1 = .str (ofL x) ∧ Po X.K c π ρ1 G1 σ H1 ((h ρ1).bind fun i ρ => match opIx (.str l) i with
    | some y => (h2 ρ).bind fun j ρ => out ((opIx (.str l) j).bind fun z => opRepl x y z) ρ
    | none => .st) fun d ρ' G' H' => ∀ w, Rep X.K G' w d → Q w H'
  have run1 : tE X.K c f σ H J1 := ⟨π, ρ, G, S, (Po.bind q).mono fun d1 ρ1 G1 H1 _ _ S1 k1 w1 r1 => by
    cases d1 with
    | str x =>
      cases r1
      exact ⟨x, ρ1, G1, S1, rfl, k1⟩
    | _ => exact False.elim k1⟩
  refine PySem.Call_method2 hbase hst hline (thn (ha.run pins s σ H J1 I run1) fun v s1 ⟨w1, H1, I1, r1, x, ρ1, G1, S1, ew, k1⟩ => ?_)
  subst ew
  obtain ⟨tx, rfl⟩ := r1
  refine ⟨"str", _, PySem.F.plainAttrs_str, PySem.F.slot_str_replace, PySem.F.type_str_replace, typeIs_str _ _ _, (fun _ e => nomatch e), Calls.callWith_builtin rfl (Calls.evalArgs_plain (Calls.spliced_cons ?_))⟩
  refine wpAny_mono (sub_tok hb hp hzl (fun y H2 => ∃ ρ2 G2, SE X.K π ρ2 G2 σ H2 ∧ Po X.K c π ρ2 G2 σ H2 ((h2 ρ2).bind fun j ρ => out ((opIx (.str l) j).bind fun z => opRepl x (.str [y]) z) ρ) fun d ρ' G' H' => ∀ w, Rep X.K G' w d → Q w H') I1
    ⟨π, ρ1, G1, S1, (Po.bind k1).mono fun i ρ2 G2 H2 _ _ S2 k2 w2 r2 => ?_⟩) (fun v2 s2 ⟨y, t2, H2, e2, ht1, ht2, I2, ρ2, G2, S2, k2⟩ => ?_) fun _ _ e => e
  · cases e : opIx (.str l) i with
    | none => rw [e] at k2; exact False.elim k2
    | some d =>
      rw [e] at k2
      obtain ⟨m, y, rfl, rfl, ey⟩ := at_ e
      cases r2
      exact ⟨m, y, rfl, ey, ρ2, G2, S2, k2⟩
  · subst e2
    refine Calls.spliced_cons ?_
    refine wpAny_mono (sub_tok hb2 hp2 hzl (fun y2 H3 => ∃ ρ3 G3, SE X.K π ρ3 G3 σ H3 ∧ Po X.K c π ρ3 G3 σ H3 (out (opRepl x (.str [y]) (.str [y2])) ρ3) fun d ρ' G' H' => ∀ w, Rep X.K G' w d → Q w H') I2
      ⟨π, ρ2, G2, S2, (Po.bind k2).mono fun i ρ3 G3 H3 _ _ S3 k3 w3 r3 => ?_⟩) (fun v3 s3 ⟨y2, t3, H3, e3, ht3, ht4, I3, ρ3, G3, S3, k3⟩ => ?_) fun _ _ e => e
    · cases e : opIx (.str l) i with
      | none => rw [e] at k3; exact False.elim k3
      | some d =>
        rw [e] at k3
        obtain ⟨m, y2, rfl, rfl, ey⟩ := at_ e
        cases r3
        exact ⟨m, y2, rfl, ey, ρ3, G3, S3, k3⟩
    · subst e3
      refine Calls.spliced_nil ?_
      simp only [opRepl] at k3
      split at k3
      · rename_i hc
        obtain ⟨hx, hy⟩ := hc
        have hyz : (ofL [y] == ofL [y2]) = false := by
          rw [beq_ofL]
          simpa using hy
        refine PySem.SC.replace (x := ofL x) (y := ofL [y]) (z := ofL [y2]) (t := tx) (u := t2) (v := t3) (Nat.ne_of_gt (Nat.lt_of_le_of_lt (Nat.zero_le _) ht1)) (Nat.ne_of_gt (Nat.lt_of_le_of_lt (Nat.zero_le _) ht3)) (Nat.ne_of_lt (Nat.lt_trans ht2 ht3)) hyz (by rw [ofL_len, ofL_len]; simp; omega) fun t' k => ⟨.str (Txt.replace (ofL x) (ofL [y]) (ofL [y2])), H3, I3.tok k, ⟨t', rfl⟩, ?_⟩
        rw [replace_ofL]
        exact k3.now S3 _ (.str _)
      · exact False.elim k3
end
end NV

set_option Elab.async false
set_option linter.all false
set_option maxRecDepth 100000
set_option maxHeartbeats 4000000
/-! Lay46: text.strip(signs), text.find(text). -/
namespace NV
open PySem PySem.Spec PyProof.Rows L2 PySem.Builtin PySem.Builtin.Str
theorem takeWhile_all {α : Type} {p : α → Bool} : ∀ {l : List α}, (∀ x ∈ l, p x = true) → l.takeWhile p = l
  | [], _ => rfl
  | x :: r, h => by rw [List.takeWhile_cons, if_pos (h x List.mem_cons_self), takeWhile_all fun y hy => h y (List.mem_cons_of_mem _ hy)]
theorem strip_ofL (s cs : List Nat) (h : s.all (fun c => decide (c ∈ cs)) = true) : Txt.stripChars (ofL s) (ofL cs) = ofL [] := by
  have hc : ∀ x ∈ s, (ofL cs).cps.contains x = true := fun x hx => by
    have := List.all_eq_true.mp h x hx
    rw [decide_eq_true_eq] at this
    show cs.toArray.contains x = true
    rw [List.contains_toArray]
    exact List.contains_iff_mem.mpr this
  unfold Txt.stripChars
  rw [PyProof.Rows.stripBy_eq]
  have e : stripLo (ofL cs).cps.contains true (ofL s) = s.length := by
    unfold stripLo
    rw [if_pos rfl, ofL_cps, takeWhile_all hc]
  rw [e]
  have e2 : stripHi (ofL cs).cps.contains true (ofL s) s.length = s.length := by
    unfold stripHi
    rw [if_pos rfl, ofL_cps, ofL_len, List.drop_length]
    simp
  rw [e2]
  rw [str_ofL (strSub (ofL s) s.length s.length)]
  congr 1
  simp [strSub, ofL]
theorem at_ofL (s t : List Nat) (i : Nat) : StrLaws.At (ofL s) (ofL t) (ofL s).length i ↔ occ s t i = true := by
  unfold StrLaws.At occ
  rw [ofL_len, ofL_len, StrLaws.subAt_eq]
  rw [ofL_cps, ofL_cps, ofL_len]
  rw [Bool.and_eq_true, decide_eq_true_eq]
theorem find_ofL (s t : List Nat) : Txt.find (ofL s) (ofL t) = findL s t := by
  unfold findL
  rcases PyProof.Rows.find_whole (ofL s) (ofL t) with ⟨h, n⟩ | ⟨i, h, a, n⟩
  · have : (List.range (s.length + 1)).find? (occ s t) = none := by
      rw [List.find?_eq_none]
      intro x _ hx
      exact n x ((at_ofL s t x).mpr hx)
    rw [h, this]
  · have o := (at_ofL s t i).mp a
    have hi : i < s.length + 1 := by
      unfold occ at o
      rw [Bool.and_eq_true, decide_eq_true_eq] at o
      omega
    have : (List.range (s.length + 1)).find? (occ s t) = some i := by
      rw [List.find?_range_eq_some]
      exact ⟨o, by rw [List.mem_range]; exact hi, fun j hj => by
        rw [Bool.not_eq_true']
        cases z : occ s t j with
        | false => rfl
        | true => exact absurd ((at_ofL s t j).mpr z) (n j hj)⟩
    rw [h, this]
section
variable {X : Cx}
theorem md_strip : MtD1 X "str.strip" opStrip := by
  refine ⟨fun {G H x y a b d Q} s ra rb e h => ?_⟩
  cases ra with
  | str z =>
    cases rb with
    | str w =>
      simp only [opStrip] at e
      split at e
      · rename_i hz
        obtain rfl := Option.some.inj e
        exact rUM_of mt_stripChars ⟨ofL z, ofL w, rfl, rfl, by rw [ofL_len, ← line_eq]; exact hz.1, by rw [strip_ofL z w hz.2]; exact h.str s⟩
      · cases e
    | _ => simp [opStrip] at e
  | _ => simp [opStrip] at e
theorem md_find : MtD1 X "str.find" opFind := by
  refine ⟨fun {G H x y a b d Q} s ra rb e h => ?_⟩
  cases ra <;> cases rb <;> first | (simp [opFind] at e; done) | skip
  obtain rfl := Option.some.inj e
  exact rUM_of mt_find ⟨_, _, rfl, rfl, by rw [find_ofL]; exact h.int s⟩
end
end NV

set_option Elab.async false
set_option linter.all false
set_option maxRecDepth 100000
set_option maxHeartbeats 4000000
/-! Lay47: x not in l, of data of any depth. -/
namespace NV
open PySem PySem.Spec PyProof.Rows L2
theorem hu65 {A : Around} {k : Nat} (hr : Room k A) : A.units + 65 < cLine := by have := hr.un; omega
section
variable {X : Cx}
theorem any_eqv : ∀ (xs : List D) (a : D) (n : Nat), D.lvs n xs = true → D.lv 12 a = true → (toPs xs).any (fun z => PyData.eqv z (toP a)) = xs.any fun y => D.eqv y a
  | [], a, n, _, _ => rfl
  | x :: r, a, n, h, k => by
    rw [D.lvs, Bool.and_eq_true] at h
    have ih := any_eqv r a n h.2 k
    rw [toPs, List.any_cons, List.any_cons, ih, eqv_of x a n 12 h.1 k]
theorem opd_notInD (hu : X.A.units + 65 < cLine) : OpD X (compareOp .NotIn) opNotInD := by
  refine ⟨fun {G H x y a b d Q} s ra rb e h => ?_⟩
  cases b with
  | lst xs =>
    unfold opNotInD at e
    dsimp only at e
    split at e
    · rename_i hl
      rw [Bool.and_eq_true] at hl
      obtain rfl := Option.some.inj e
      have hd := dp_of (.lst xs) 12 _ (rb.mono s _) hl.2
      have hs := shaped_of (d := .lst xs) hl.2
      rw [toP] at hd hs
      refine rU2_of (op_notInD hu) ⟨_, _, dp_of a 12 _ (ra.mono s _) hl.1, hd, shaped_of hl.1, hs, ?_⟩
      have l2 := hl.2
      rw [D.lv] at l2
      rw [any_eqv xs a 11 l2 hl.1]
      exact h.bl s
    · cases e
  | _ => simp [opNotInD] at e
end
end NV

set_option Elab.async false
set_option linter.all false
set_option maxRecDepth 100000
set_option maxHeartbeats 4000000
/-! Lay48: a def called within an except suite, the exception tracked. -/
namespace L2
open PySem PySem.Spec PyProof.Rows
theorem unitsQ {k : Nat} {A : Around} (r : L2H.RoomH k A) : A.units + 64 < cLine := by have := r.un; omega
theorem huQ {k : Nat} {A : Around} (r : L2H.RoomH k A) : A.units + 1 < cLine := by have := r.un; omega
theorem depthQ {k : Nat} {A : Around} (r : L2H.RoomH k A) : A.depth < recursionLimit := by have := r.dp; omega
theorem roomQ {j k : Nat} {A : Around} {v : Option Value} (r : Room k A) (h : j ≤ k) : L2H.RoomH j (A.mark v) :=
  L2H.RoomH.mono (k := k) ⟨by have := r.dp; exact this, by have := r.un; exact this⟩ h
/-- what a def promises where an exception may be handled -/
structure FnQ (P : Program) (w : World) (K : PySem.W.Frag) (mg : Str → Option Value) (base : Heap) (CX : CXT) (k : Nat) (f : Addr) (fd : FuncData) (ps : List Str) (sp : Sp) : Prop where
  len : ∀ vs H Q E, sp vs H Q E → vs.length = ps.length
  run : ∀ (A : Around) (outer : List Env) (s : Shared) (H : Hp) (args : Args) (us : List Value) (vs : List V) (Q : VK) (E : XK), L2H.RoomH k A → Env0 P w K mg base A outer s H → BindsTo s fd args (ps.zip us) → Vals vs us → sp vs H Q E →
    codeAny (model P w) A (.call (.ref f) args) (CR CX outer P w H s Q E) s
def cxQ (CX : CXT) (P : Program) (w : World) (K : PySem.W.Frag) (mg : Str → Option Value) (base : Heap) (N : List Str) (qual : Str) (scope : Scope) (f : Addr) (cd : Value) (A : Around) (outer : List Env) (s : Shared) (H : Hp) (E : XK) : Cx :=
  { cxOf CX P w K mg base N qual scope f cd A outer s H E with calm := false }
theorem inv_startQ {CX : CXT} {P : Program} {w : World} {K : PySem.W.Frag} {mg : Str → Option Value} {base : Heap} {N ps : List Str} {qual : Str} {scope : Scope} {f : Addr} {cd : Value} {A : Around} {outer : List Env} {s s1 : Shared} {H : Hp} {E : XK} {us : List Value} {vs : List V}
    (S : FnScope N ps scope) (e0 : Env0 P w K mg base A outer s H) (hl : vs.length = ps.length) (r : Vals vs us)
    (x : InCallC s s.heap.objs.size (bindL (envOfC qual scope s.heap.objs.size f cd).kindOf (ps.zip us) fun _ => none) (cellsFrom (s.heap.objs.size + 1) scope.names []) (bindC (envOfC qual scope s.heap.objs.size f cd).kindOf (ps.zip us) fun _ => none) s1) :
    Inv (cxQ CX P w K mg base N qual scope f cd A outer s H E) [] (start N vs) H s1 := by
  have hpl : ps.length ≤ N.length := by have := congrArg List.length S.pre; rw [List.length_take] at this; omega
  obtain ⟨h1, tk, rfl, hk⟩ := x.done
  have noA : ∀ b : Addr, b ∉ (cxQ CX P w K mg base N qual scope f cd A outer s H E).ex := fun b z => absurd (show b ∈ ([] : List Addr) from z) (by simp)
  refine ⟨⟨e0.mod, S.kind, rfl, rfl, Nat.le_refl _, fun y z c h1 h2 => ?_, fun y hy => ?_, fun y c _ h => ?_, (fun z => Bool.noConfusion (show false = true from z)), Around.frames_deeper e0.frames, .inr ⟨rfl, rfl⟩, fun b z => absurd z (noA b), e0.bs, e0.bsz, fun b _ _ => noA b, fun b z => absurd z (noA b), e0.funs, e0.frf⟩,
    rfl, e0.bare, Un.kept hk, ⟨_, x.toInCall.ns, fun i y v h1 h2 h3 => ?_⟩, fun y c h => ⟨_, x.cell y c h⟩, e0.hok.fresh (Nat.le_refl _), fun y c h => ?_, fun p hp => absurd (show p ∈ ([] : List (Addr × Obj)) from hp) (by simp), e0.hok.kept hk, ?_⟩
  · exact name_of_addr x.apart (PySem.mem_of_lookup h1) (PySem.mem_of_lookup h2)
  · have hy : scope.names.lookup y = some .cell ∨ scope.names.lookup y = some .free := hy
    rcases hy with hy | hy
    · exact cell_has hy
    · exact absurd rfl (S.nofree _ (PySem.mem_of_lookup hy))
  · exact Nat.le_of_lt (x.above y c (PySem.mem_of_lookup h))
  · have hi : i < vs.length := by
      unfold start at h2
      by_cases hi : i < vs.length
      · exact hi
      · rw [List.getElem?_append_right (by simpa using hi)] at h2
        rw [List.getElem?_replicate] at h2
        split at h2 <;> cases h2
    have ha : vs[i]? = some v := by
      unfold start at h2
      rw [List.getElem?_append_left (by simpa using hi), List.getElem?_map] at h2
      cases e : vs[i]? with
      | none => rw [e] at h2; cases h2
      | some a => rw [e] at h2; cases h2; rfl
    obtain ⟨u, hu, rv⟩ := r.get ha
    have hp : ps[i]? = some y := by
      rw [← S.pre, List.getElem?_take_of_lt (by omega)]; exact h1
    have ndP : ps.Nodup := by rw [← S.pre]; exact S.nd.sublist (List.take_sublist _ _)
    refine ⟨u, rv, ?_⟩
    rcases S.par y (List.mem_of_getElem? hp) with k | k
    · exact .inl ⟨k, bindL_get ndP hp hu k⟩
    · obtain ⟨c, e⟩ := cell_has (n := s.heap.objs.size + 1) k
      refine .inr ⟨.inl k, c, e, ?_⟩
      have q := x.cell y c e
      rw [bindC_get ndP hp hu (by show scope.names.lookup y ≠ _; rw [k]; decide)] at q
      exact q
  · exact e0.hok.fresh (Nat.le_of_lt (x.above y c (PySem.mem_of_lookup h)))
  · unfold start
    show _ = N.length
    rw [List.length_append, List.length_map, List.length_replicate]
    omega

theorem fn_ofQ {CX : CXT} {P : Program} {w : World} {K : PySem.W.Frag} {mg : Str → Option Value} {base : Heap} {k : Nat} {f : Addr} {name qual : Str} {params : Arguments} {body : List Stmt} {scope : Scope} {dV kV doc pm cdv ct oc : Value} {an od : Option Addr}
    {osl : Array (Option Value)} {N ps : List Str} {sp : Sp} (lk : K.lookup f = some ⟨oc, od, .func (PySem.W.fnOf name qual params body scope dV kV doc pm an cdv ct), osl⟩) (hcd : PySem.W.codeIn K cdv qual = true) (S : FnScope N ps scope)
    (len : ∀ vs H Q E, sp vs H Q E → vs.length = ps.length)
    (hbody : ∀ (A : Around) (outer : List Env) (s : Shared) (H : Hp) (vs : List V) (Q : VK) (E : XK), L2H.RoomH k (A.deeper (envOfC qual scope s.heap.objs.size f cdv)) → sp vs H Q E →
      ∃ t, PSs (cxQ CX P w K mg base N qual scope f cdv A outer s H E) body t ∧ t { nx := fun _ H' => Q .non H', rt := Q } (start N vs) H) :
    FnQ P w K mg base CX (k + 1) f (PySem.W.fnOf name qual params body scope dV kV doc pm an cdv ct) ps sp := by
  refine ⟨len, fun A outer s H args us vs Q E hr e0 hb r hsp => ?_⟩
  have hl := len _ _ _ _ hsp
  have KX : K.In s.heap := e0.mod.kin.keeps fun b o e => (e0.bs b o e).1
  have lim : s.heap.NoLimit := e0.mod.nolimit.keeps fun b o e => (e0.bs b o e).1
  have hkind : ∀ y ∈ ps.zip us, scope.names.lookup y.1 = some .local ∨ (scope.names.lookup y.1 = some .cell ∧ ((cellsFrom (s.heap.objs.size + 1) scope.names []).lookup y.1).isSome = true) := fun ⟨n, v⟩ hy => by
    rcases S.par n (List.of_mem_zip hy).1 with q | q
    · exact .inl q
    · exact .inr ⟨q, PySem.W.cellsFrom_some _ _ _ (.inl q)⟩
  refine codeAny_call_function (depthQ hr) (KX _ _ lk) rfl S.co S.gen rfl (PySem.W.codeRec_of KX hcd) (hb _ _ _ _ ?_)
  refine wpAny_newFunctionEnv_cells S.kind hkind fun env he s1 x => ?_
  subst he
  refine ⟨lim.keeps x.toInCall.keep, codeAny_func ?_⟩
  obtain ⟨t, ht, hq⟩ := hbody A outer s H vs Q E (hr.deeper _) hsp
  have I : Inv (cxQ CX P w K mg base N qual scope f cdv A outer s H E) [] (start N vs) H s1 := inv_startQ S e0 hl r x
  refine wpAny_mono (ht.run [] s1 (start N vs) H _ I hq) (fun fl s' hs => ?_) fun e s' hs => hs
  have fin : ∀ {σ' : St} {H' : Hp} {v : V} {u : Value}, Inv (cxQ CX P w K mg base N qual scope f cdv A outer s H E) [] σ' H' s' → RelV v u → Q v H' → CE outer P w H s Q u s' :=
    fun {σ' H' v u} J rv q => ⟨v, H', J.os, J.bare, J.base, J.hok, rv, q⟩
  cases fl with
  | ret u =>
    obtain ⟨v, σ', H', J, rv, q⟩ := hs
    exact fin J rv q
  | next =>
    obtain ⟨σ', H', J, q⟩ := hs
    exact fin (v := V.non) (u := Value.none) J rfl q
  | brk =>
    obtain ⟨_, _, _, q⟩ := hs
    exact False.elim q
  | cont =>
    obtain ⟨_, _, _, q⟩ := hs
    exact False.elim q
theorem okQ {P : Program} {w : World} {K : PySem.W.Frag} {mg : Str → Option Value} {base : Heap} {x qual : Str} {st : Stmt} {f : Addr} {fd : FuncData} {N ps : List Str} {k : Nat} {sp : Sp} (F : Fun K x qual st f fd) (S : FnScope N ps (defScope st)) (len : ∀ vs H Q E, sp vs H Q E → vs.length = ps.length)
    (hbody : ∀ (cdv : Value) (A : Around) (outer : List Env) (s : Shared) (H : Hp) (vs : List V) (Q : VK) (E : XK), L2H.RoomH k (A.deeper (envOfC qual (defScope st) s.heap.objs.size f cdv)) → sp vs H Q E →
      ∃ t, PSs (cxQ (L2.CX P w) P w K mg base N qual (defScope st) f cdv A outer s H E) (defBody st) t ∧ t { nx := fun _ H' => Q .non H', rt := Q } (start N vs) H) : FnQ P w K mg base (L2.CX P w) (k + 1) f fd ps sp := by
  obtain ⟨oc, od, kV, doc, pm, an, cdv, ct, osl, rfl, lk, hcd⟩ := F.ex
  exact fn_ofQ lk hcd S len fun A outer s H vs Q E hr hsp => hbody cdv A outer s H vs Q E hr hsp
section
variable {X : Cx} {CX : CXT} {k : Nat} {f : Addr} {fd : FuncData} {ps : List Str} {sp : Sp} {E : St → XK} {x : Str} {q pos : Pos} {e : Expr} {es : List Expr} {t : TA}
theorem run_fnQ {pins : List (Addr × Obj)} {σ : St} {H : Hp} {s : Shared} {Q : VK} {us : List Value} {vs : List V} (F : FnQ X.prog X.w X.K X.mg X.base CX k f fd ps sp) (hr : L2H.RoomH k X.A) (hb : Binds X.K fd ps []) (hx : PassesAt CX X σ (E σ))
    (I : Inv X pins σ H s) (r : Vals vs us) (h : sp vs H Q (E σ)) : wpAny (model X.prog X.w) X.A (call (.ref f) us) (EP X pins σ Q) X.xe s := by
  have hl : us.length = ps.length := by rw [← r.length]; exact F.len _ _ _ _ h
  have b := hb s us I.kIn (by rw [List.append_nil]; exact hl)
  rw [List.append_nil] at b
  refine wpAny_call (codeAny_mono (F.run X.A X.stack s H ⟨us, []⟩ us vs Q (E σ) hr I.env0 b r h) fun r s' hq => ?_)
  cases r with
  | error e => exact hx pins H s e s' I hq
  | ok fl =>
    cases fl with
    | ret u => exact I.after hq
    | next => exact False.elim hq
    | brk => exact False.elim hq
    | cont => exact False.elim hq
theorem pe_callQ (F : FnQ X.prog X.w X.K X.mg X.base CX k f fd ps sp) (hr : L2H.RoomH k X.A) (hg : Gl X x) (hm : X.mg x = some (.ref f)) (hk : PySem.W.keepIn X.K (.ref f) = true) (hb : Binds X.K fd ps []) (hx : ∀ σ, PassesAt CX X σ (E σ))
    (ha : PA X (e :: es) t) (hdb : (x == ("__debug__" : Str)) = false := by decide) (he : starEach (e :: es) X.env = (false, eval e X.env) :: starEach es X.env := by rfl) (hpl : (backTo pos (starEach es X.env)).any (·.1) = false := by rfl) :
    PE X (.Call (.Name x q) (e :: es) [] pos) (tCallS sp E t) := by
  refine ⟨fun pins s σ H Q I h => ?_⟩
  refine wpAny_Call_Name_kw (ld_glob I hg hm ?_ hdb)
  refine PySem.W.callWith_K (h₀ := X.base) I.ok.mod.kin hk (thn (ha.run pos pins s σ H _ I h) fun us s1 ⟨vs, H1, I1, r, q⟩ => ⟨I1.kIn, ?_⟩) he hpl
  exact run_fnQ F hr hb (hx σ) I1 r q
end
def wQ (K : PySem.W.Frag) (c : Value) (i : Nat) (ts : TS) (Wout : WX) (D : Ends) : WX := fun cls d σ H =>
  ∃ b, PySem.W.exmOne K cls c = some b ∧ (b = true → ∀ a, H a = none → ts { nx := fun σ6 H6 => D.nx (σ6.set i none) H6, rt := fun _ _ => False } (σ.set i (some (.ref a))) (upd H a (NV.exv cls d a))) ∧ (b = false → Wout cls d σ H)
theorem Inv.suite0 {X : Cx} {pins : List (Addr × Obj)} {σ : St} {H : Hp} {s : Shared} (I : Inv X pins σ H s) (a : Addr) : Inv (X.suite a (X.pn ++ pins)) [] σ H s :=
  ⟨I.ok.suite _ _, I.os, I.bare, I.base, I.loc, I.cell, I.free, I.freeC, fun p hp => I.pin p (by rw [List.append_nil] at hp; exact hp), I.hok, I.len⟩
theorem Inv.unsuite0 {X : Cx} {pins : List (Addr × Obj)} {σ : St} {H : Hp} {s : Shared} {a : Addr} {pn' : List (Addr × Obj)} (I : Inv (X.suite a (X.pn ++ pins)) pn' σ H s) (ok : X.Ok) : Inv X pins σ H s :=
  ⟨ok, I.os, I.bare, I.base, I.loc, I.cell, I.free, I.freeC, fun p hp => I.pin p (List.mem_append_left _ hp), I.hok, I.len⟩
section
variable {X : Cx} {x n : Str} {c : Value} {i : Nat} {body : List Stmt} {st : Stmt} {ts : TS} {np pos pos' : Pos} {tb : WX → TS} {Wout : WX}
theorem ps_try_q (hs : X.stack = X.env :: X.outer) (hf : X.env.frame = some X.env.locals) (hN : X.N.Nodup) (hi : X.N[i]? = some n) (hln : X.env.kindOf n = some .local) (hc : Names X x c) (tk : Takes X Wout)
    (hb : ∀ (W : WX) (pn : List (Addr × Obj)) (xe : Value → Shared → Prop), Takes (X.tr pn xe) W → PassesOwn (model X.prog X.w) X.A X.env xe → PSs (X.tr pn xe) body (tb W))
    (hsu : ∀ (a : Addr) (pn : List (Addr × Obj)), PSs (X.suite a pn) [st] ts) :
    PS X (.Try body [.ExceptHandler (some (.Name x np)) (some n) [st] pos'] [] [] pos) (fun D σ H => tb (wQ X.K c i ts Wout D) D σ H) := by
  refine ⟨fun pins s σ H D I h => ?_⟩
  have ok := I.ok
  have hfr : X.A.frames = some (X.env :: X.outer) := by rw [ok.frames, hs]
  have hloc : Loc X.env.scope n := .inl hln
  refine wpAny_Try_except ?_
  refine wpAny_mono ((hb (wQ X.K c i ts Wout D) (X.pn ++ pins) (fun e s₁ => wpAny (model X.prog X.w) X.A (noteFrame e X.env) (fun _ s₂ => wpAny (model X.prog X.w) X.A (setFlight e none) (fun _ s₃ =>
    wpAny (model X.prog X.w) X.A (handleBy e X.env [.ExceptHandler (some (.Name x np)) (some n) [st] pos']) (SP X pins D) X.xe s₃) X.xe s₂) X.xe s₁) (fun u s' xx => ?_) PassesOwn.looking).run [] s σ H D (I.toTry _) h) (fun f s1 hsp => ?_) (fun e s1 he => he)
  · -- the catch
    obtain ⟨a, B, sI, pins', σ', H', cls, d, rfl, J', nb, up, sky, na, os, ag, b, hb1, hyes, hno⟩ := xx
    have J : Inv X pins σ' H' sI := J'.ofTry ok
    have sky' : Sky B (X.env :: X.outer) a (Zc cls d) X.env.locals s'.heap := by rw [← hs]; exact sky
    show wpAny (model X.prog X.w) X.A (noteFrame (.ref a) X.env) _ _ _
    refine Sky.land Zc.steady hfr hf sky' fun h3 fl3 up3 => ?_
    have J3 : Inv X pins σ' H' { s' with heap := h3 } := J.landed nb fl3.1 (up.trans up3) os ag
    obtain ⟨oe3, vs3, he3, hz3, hd3⟩ := fl3.there
    have notFr : ∀ {h : Heap} {o : Obj} {vs : Array Value}, h.FunFrames B (X.env :: X.outer) → h.get? a = some o → o.data = .fields vs → a ∉ frs (X.env :: X.outer) := fun {h o vs} ff e dd hm => by
      obtain ⟨_, o', e', hnf⟩ := ff.mem hm
      rw [e] at e'; cases e'
      exact hnf _ dd
    have nfr := notFr fl3.2.2.1 he3 hd3
    have nL : a ≠ X.env.locals := fun z => nfr (List.mem_filterMap.mpr ⟨X.env, List.mem_cons_self, by rw [hf, z]⟩)
    have nF : a ∉ X.fs := fun hm => by
      obtain ⟨e, he, q⟩ := List.mem_filterMap.mp hm
      exact nfr (List.mem_filterMap.mpr ⟨e, List.mem_cons_of_mem _ he, q⟩)
    have S3 := J3.suite he3 hd3 na nL nF
    have aI : sI.heap.get? a = none := by
      cases e : sI.heap.get? a with
      | none => rfl
      | some o =>
        have := nb a o e (by rw [hs]; exact nfr)
        rw [fl3.2.1] at this; cases this
    have aP : ∀ p ∈ X.pn ++ pins, p.1 ≠ a := fun p hp z => by
      have := (J.pin p hp).1
      rw [z, aI] at this; cases this
    have aB : ∀ o, a ∉ X.ex → X.s_0.heap.get? a ≠ some o := fun o hx e => by
      obtain ⟨o', q⟩ := J.base.there a o e hx
      rw [aI] at q; cases q
    refine wpAny_handleBy_cons (codeAny_handlers_test ?_) (by intro q; cases q)
    have LT : PySem.W.Looks (model X.prog X.w) h3 (typeOf (.ref a)) cls := fun A Q E s k q => wpAny_typeOf_ref (k _ _ he3) (by rw [hz3.1]; exact q)
    have LM := PySem.W.exm_one (M := model X.prog X.w) (J3.kIn) LT hb1
    have test : ∀ {Q : Value → Shared → Prop} {E : Value → Shared → Prop}, Q c { s' with heap := h3 } → wpAny (model X.prog X.w) (X.A.mark (some (.ref a))) (eval (.Name x np) X.env) Q E { s' with heap := h3 } := fun {Q E} q => by
      obtain ⟨hg, hdbg, hm | ⟨hm, hv, hnn⟩⟩ := hc
      · exact ld_glob (X := X.suite a ((a, oe3) :: (X.pn ++ pins))) S3 hg hm q hdbg
      · exact ld_blt (X := X.suite a ((a, oe3) :: (X.pn ++ pins))) S3 hg hm hv q hnn hdbg
    refine test (LM.here ?_)
    cases b with
    | true =>
      refine codeAny_handlers_suite_as ?_
      refine HandSPX.lands_againZ fl3 fun h4 fl4 up4 => ?_
      have J4 : Inv X pins σ' H' { s' with heap := h4 } := J.landed nb fl4.1 ((up.trans up3).trans up4) os ag
      obtain ⟨oe4, vs4, he4, hz4, hd4⟩ := fl4.there
      have S4 := J4.suite he4 hd4 na nL nF
      refine store_ok (X := X.suite a ((a, oe4) :: (X.pn ++ pins))) (v := .ref a) S4 hN hi hloc rfl (fun s5 S5 => ?_) (.inr hln)
      have hlen : i < σ'.length := by
        rw [J.len]
        exact (List.getElem?_eq_some_iff.mp hi).1
      have pin5 := S5.pin (a, oe4) (List.mem_append_left _ List.mem_cons_self)
      have T5 : Inv X pins _ _ s5 := S5.unsuite ok
      have T6 := T5.hold pin5.1 na nL hz4 hd4 aP aB
      refine wpAny_mono ((hsu a (X.pn ++ pins)).run [] s5 _ _ { nx := fun σ6 H6 => D.nx (σ6.set i none) H6, rt := fun _ _ => False } (T6.suite0 a) (hyes rfl a na)) (fun f s6 hsp => ?_) (fun _ _ z => False.elim z)
      cases f with
      | next =>
        obtain ⟨σ6, H6, S6, q6⟩ := hsp
        exact gone_ok (S6.unsuite0 ok) hN hi hln fun s7 J7 => ⟨_, _, J7, q6⟩
      | brk =>
        obtain ⟨σ6, H6, S6, q6⟩ := hsp
        exact False.elim q6
      | cont =>
        obtain ⟨σ6, H6, S6, q6⟩ := hsp
        exact False.elim q6
      | ret u =>
        obtain ⟨v6, σ6, H6, S6, r6, q6⟩ := hsp
        exact False.elim q6
    | false =>
      show wpAny _ X.A (handleBy (.ref a) X.env []) _ _ _
      refine wpAny_handleBy_nil ?_
      obtain ⟨k1, k2, k3, oe, vs, T, oT, ts', he, hz, hd, h1, hr⟩ := id fl3
      unfold PySem.passOn
      refine wpAny_bind (wpAny_field he hd h1 ?_)
      rw [if_neg (show ¬ ((Value.ref T == Value.none) = true) from by simp)]
      have fin : wpAny (model X.prog X.w) X.A (setFlight (.ref a) X.env.frame) (fun _ s4 => wpAny (model X.prog X.w) X.A (throw (.ref a) : Sem Flow) (SP X pins D) X.xe s4) X.xe { s' with heap := h3 } := by
        rw [hf]
        refine HandSPX.setFlight_upZ fl3 fun h4 hh4 up4 => wpAny_throw (tk _ _ ?_)
        exact ⟨a, B, sI, pins, σ', H', cls, d, rfl, J, nb, (up.trans up3).trans up4, .inr (.inr (by rw [hs]; exact hh4)), na, os, ag, hno rfl⟩
      first
        | exact wpAny_bind (wpAny_pure (wpAny_bind fin))
        | exact wpAny_bind fin
  · cases f with
    | next =>
      obtain ⟨σ', H', J', q⟩ := hsp
      exact wpAny_execs_nil ⟨σ', H', J'.ofTry ok, q⟩
    | brk =>
      obtain ⟨σ', H', J', q⟩ := hsp
      exact ⟨σ', H', J'.ofTry ok, q⟩
    | cont =>
      obtain ⟨σ', H', J', q⟩ := hsp
      exact ⟨σ', H', J'.ofTry ok, q⟩
    | ret u =>
      obtain ⟨v, σ', H', J', r, q⟩ := hsp
      exact ⟨v, σ', H', J'.ofTry ok, r, q⟩
end
end L2

namespace NV
open PySem PySem.Spec PyProof.Rows L2
section
variable {X : Cx} {c : Lv} {e : Expr} {es : List Expr} {fs : Ea} {pos p : Pos} {x : Str} {s : Df} {n k : Nat} {f : Addr} {fd : FuncData} {ps : List Str}
theorem ro_callQ (F : FnQ X.prog X.w X.K X.mg X.base (L2.CX X.prog X.w) k f fd ps (spD X.K c.Z n s)) (hn : ∀ as, s as ≠ .st → as.length = n) (hr : L2H.RoomH k X.A) (hg : Gl X x) (hm : X.mg x = some (.ref f)) (hk : PySem.W.keepIn X.K (.ref f) = true) (hb : Binds X.K fd ps []) (tk : Takes X c.W)
    (ha : PA X (e :: es) (tA X.K c fs)) (hdb : (x == ("__debug__" : Str)) = false := by decide) (he : starEach (e :: es) X.env = (false, eval e X.env) :: starEach es X.env := by rfl) (hpl : (backTo pos (starEach es X.env)).any (·.1) = false := by rfl) :
    PE X (.Call (.Name x p) (e :: es) [] pos) (tO X.K c (eCall s fs)) := PE_imp (pe_callQ F hr hg hm hk hb (fun σ => passAt tk σ) ha hdb he hpl) fun σ H Q q => by
  obtain ⟨π, ρ, G, S, k⟩ := q
  refine ⟨π, ρ, G, S, (Po.bind k).mono fun ds ρ1 G1 H1 s1 e1 S1 k1 vs r => ?_⟩
  have SC := SE.args S1.sub r π
  have hlen : s (ds.map .v) ≠ .st → vs.length = n := fun z => by
    have := hn _ z
    rw [List.length_map] at this
    rw [r.length, this]
  cases z : s (ds.map Sl.v) with
  | ok rr as' =>
    simp only [z] at k1
    refine ⟨hlen (by rw [z]; exact fun q => by cases q), π, _, G1, SC, ?_⟩
    rw [z]
    intro G' H' s' e' S' w q
    obtain ⟨S2, e2⟩ := S1.after s' S'.sub fun b o hb => by
      obtain ⟨a1, _, a3⟩ := e' b o hb noOwn_v
      exact ⟨a1, a3⟩
    refine k1 G' H' s' e2 S2 w ?_
    cases rr with
    | v d => exact q
    | o d =>
      obtain ⟨pp, rfl, q1, q2, q3, q4⟩ := q
      have h1 : H1 pp = none := q4.resolve_right noOwn_v
      refine ⟨pp, rfl, q1, q2, fun z => ?_, ?_⟩
      · obtain ⟨_, o, ho⟩ := S1.own z
        rw [h1] at ho; cases ho
      · cases zz : H pp with
        | none => exact .inl rfl
        | some o =>
          by_cases m : Ownd ρ σ pp
          · exact .inr m
          · have := (e1 pp o zz m).1
            rw [h1] at this; cases this
    | un => exact False.elim q
    | io _ _ => exact False.elim q
  | rz xx as' =>
    simp only [z] at k1
    refine ⟨hlen (by rw [z]; exact fun q => by cases q), π, _, G1, SC, ?_⟩
    rw [z]
    intro cls d G' H' s' e' S' hz
    obtain ⟨S2, e2⟩ := S1.after s' S'.sub fun b o hb => by
      obtain ⟨a1, _, a3⟩ := e' b o hb noOwn_v
      exact ⟨a1, a3⟩
    exact k1 cls d G' H' s' e2 S2 hz
  | st => simp only [z] at k1; exact False.elim k1
end
section
variable {P : Program} {w : World} {K : PySem.W.Frag} {mg : Str → Option Value} {base : Heap}
theorem defQ_ok {Z : Exn → Value → Option Addr → Hp → Prop} {x qual : Str} {st : Stmt} {f : Addr} {fd : FuncData} {N ps : List Str} {k n m : Nat} {g : Es} (F : Fun K x qual st f fd) (S : FnScope N ps (defScope st)) (hn : ps.length = n) (hm : N.length = n + m)
    (hb : ∀ (cdv : Value) (A : Around) (outer : List PySem.Env) (s : Shared) (H : Hp) (E : XK), L2H.RoomH k (A.deeper (envOfC qual (defScope st) s.heap.objs.size f cdv)) →
      PSs (cxQ (L2.CX P w) P w K mg base N qual (defScope st) f cdv A outer s H E) (defBody st) (tS K ⟨Z, fun cls d _ H' => E cls d H'⟩ g)) : FnQ P w K mg base (L2.CX P w) (k + 1) f fd ps (spD K Z n (run n m g)) := by
  refine okQ F S (fun vs H Q E h => h.1.trans hn.symm) fun cdv A outer s H vs Q E hr h => ⟨_, hb cdv A outer s H E hr, ?_⟩
  obtain ⟨hl, π, as, G, SA, k⟩ := h
  have hl2 : as.length = n := by rw [SA.len, List.length_map]; exact hl
  refine ⟨π, as ++ List.replicate m .un, G, SA.begin (by rw [hm, hl2]), ?_⟩
  unfold run at k
  rw [if_pos hl2] at k
  cases z : g (as ++ List.replicate m .un) with
  | st => rw [z] at k; exact False.elim k
  | rz xx ρ' =>
    rw [z] at k
    intro cls d σ' G' H' s1 e1 S1 hz
    obtain ⟨S2, e2, _⟩ := SA.ends s1 e1 S1
    exact k cls d G' H' s1 e2 S2 hz
  | ok fl ρ' =>
    rw [z] at k
    cases fl with
    | nx =>
      intro σ' G' H' s1 e1 S1
      obtain ⟨S2, e2, _⟩ := SA.ends s1 e1 S1
      exact k G' H' s1 e2 S2 _ .non
    | brk => exact False.elim k
    | cnt => exact False.elim k
    | ret r =>
      intro w' σ' G' H' s1 e1 S1 q
      obtain ⟨S2, e2, ow⟩ := SA.ends s1 e1 S1
      exact k G' H' s1 e2 S2 _ (q.ends ow)
end
section
variable {X : Cx} {ks : List Nat} {x n : Str} {cv : Value} {body : List Stmt} {st : Stmt} {np pos pos' : Pos} {W : WX} {B h : Es}
theorem rs_tryQ (i : Nat) (hs : X.stack = X.env :: X.outer) (hf : X.env.frame = some X.env.locals) (hN : X.N.Nodup) (hi : X.N[i]? = some n) (hln : X.env.kindOf n = some .local) (hc : Names X x cv) (tk : Takes X W)
    (hex : ∀ k ∈ ks, ∀ C, ExcAt X.K k C → PySem.W.exmOne X.K (.ref C) cv = some true)
    (hb : ∀ (W : WX) (pn : List (Addr × Obj)) (xe : Value → Shared → Prop), Takes (X.tr pn xe) W → PassesOwn (model X.prog X.w) X.A X.env xe → PSs (X.tr pn xe) body (tS X.K ⟨ZX X.K ks, W⟩ B))
    (hsu : ∀ (a : Addr) (pn : List (Addr × Obj)), PSs (X.suite a pn) [st] (tS X.K ⟨ZX X.K ks, fun _ _ _ _ => False⟩ h)) :
    PS X (.Try body [.ExceptHandler (some (.Name x np)) (some n) [st] pos'] [] [] pos) (tS X.K ⟨ZX X.K ks, W⟩ (sTryQ i h B)) :=
  PS_imp (ps_try_q (tb := fun W => tS X.K ⟨ZX X.K ks, W⟩ B) hs hf hN hi hln hc tk hb hsu) fun D σ H q => by
    obtain ⟨π, ρ, G, S, k⟩ := q
    refine ⟨π, ρ, G, S, ?_⟩
    unfold sTryQ at k
    cases z : B ρ with
    | st => rw [z] at k; exact k
    | ok fl ρ' =>
      rw [z] at k
      cases fl with
      | nx => exact k
      | brk => exact k
      | cnt => exact k
      | ret r => exact k
    | rz xx ρ' =>
      rw [z] at k
      dsimp only at k
      intro cls d σ' G' H' s' e' S' hz
      obtain ⟨hk, C, vs, rfl, hC, hf2, hr⟩ := hz
      refine ⟨true, hex _ hk _ hC, fun _ a na => ?_, fun q => Bool.noConfusion q⟩
      have g := Grow.tr (o := exv (.ref C) d a) S'.sub na
      obtain ⟨S1, e1⟩ := S'.grow g
      have rep : Rep X.K (upd G' a (exv (.ref C) d a)) (.ref a) (.exc xx.k xx.m) := .exc hC upd_same (hf2.mono g.g) (Reps.mono g.g _ _ hr)
      obtain ⟨S2, e2⟩ := S1.set rep i
      refine ⟨π, _, _, S2, ?_⟩
      cases y : h (ρ'.set i (.v (.exc xx.k xx.m))) with
      | st => rw [y] at k; exact False.elim k
      | rz _ _ => rw [y] at k; exact False.elim k
      | ok fl ρ2 =>
        rw [y] at k
        cases fl with
        | nx =>
          intro σ6 G6 H6 s6 e6 S6
          obtain ⟨S7, e7⟩ := S6.un i none
          exact k _ _ _ ((s'.trans g.g).trans s6) ((((e'.trans e1).trans e2).trans e6).trans e7) S7
        | brk => exact False.elim k
        | cnt => exact False.elim k
        | ret r => exact False.elim k
end
end NV

set_option Elab.async false
set_option linter.all false
set_option maxRecDepth 100000
set_option maxHeartbeats 4000000
/-! Lay49: list of a text; i & 1. -/
namespace NV
open PySem PySem.Spec PyProof.Rows L2
theorem vals_idx : ∀ {vs : List V} {us : List Value}, vs.length = us.length → (∀ (i : Nat) v u, vs[i]? = some v → us[i]? = some u → RelV v u) → Vals vs us
  | [], [], _, _ => .nil
  | [], _ :: _, h, _ => by cases h
  | _ :: _, [], h, _ => by cases h
  | v :: vs, u :: us, h, k => .cons (k 0 v u rfl rfl) (vals_idx (by simpa using h) fun i v' u' h1 h2 => k (i + 1) v' u' (by simpa using h1) (by simpa using h2))
theorem vals_signs {x : Str} {acc : Array Value} (h : ItemsOf (SignAt x) acc x.cps.size) : Vals (x.cps.toList.map fun c => V.str ⟨#[c]⟩) acc.toList := by
  refine vals_idx (by rw [List.length_map, Array.length_toList, Array.length_toList, h.1]) fun i v u h1 h2 => ?_
  rw [Array.getElem?_toList] at h2
  obtain ⟨c, t, e1, rfl⟩ := h.2 i u h2
  rw [List.getElem?_map, Array.getElem?_toList, e1] at h1
  obtain rfl := Option.some.inj h1
  exact ⟨t, rfl⟩
section
variable {X : Cx} {a : Expr} {c : Lv} {f : Ev} {p pos : Pos}
theorem call_list_sgn (hc : X.calm = true) : CallR X (.type "list") (fun xs H Q => ∃ x : Str, xs = [.str x] ∧ x.cps.size ≤ sizeLine ∧ ∀ l, H l = none → Q (.ref l) (upd H l (.lst (x.cps.toList.map fun c => V.str ⟨#[c]⟩)))) := by
  intro pins s σ H xs us Q I r h
  obtain ⟨x, rfl, hl, q⟩ := h
  cases r with
  | cons r rt =>
    cases rt
    obtain ⟨t, rfl⟩ := r
    refine call_list_str (I.ok.hd hc) x t (fun h' tk acc' c' kp e it => ?_) hl
    refine ⟨.ref s.heap.objs.size, _, I.laid (t' := tk) kp (Nat.le_refl _) (show ObjOk X.prog X.w _ h' _ (.lst (x.cps.toList.map fun c => V.str ⟨#[c]⟩)) from ⟨?_, acc'.toList, c', vals_signs it, ?_⟩), rfl, q _ (I.hok.fresh (Nat.le_refl _))⟩
    · rw [List.length_map, Array.length_toList]; exact hl
    · exact e
theorem reps_signs {K : PySem.W.Frag} {G : Hp} : ∀ s : List Nat, Reps K G (s.map fun c => V.str ⟨#[c]⟩) (s.map fun c => D.str [c])
  | [] => .nil
  | c :: r => .cons (.str [c]) (reps_signs r)
theorem ofL_list (s : List Nat) : (ofL s).cps.toList = s := ofL_cps s
theorem size_ofL (s : List Nat) : (ofL s).cps.size = s.length := by rw [← Array.length_toList, ofL_list]
theorem cd_listT (hc : X.calm = true) : CallD1 X (.type "list") opListT := by
  refine ⟨fun {G H x a d Q} s ra e h => ?_⟩
  cases ra with
  | str z =>
    simp only [opListT] at e
    split at e
    · rename_i hl
      obtain rfl := Option.some.inj e
      refine rUC_of (call_list_sgn hc) ⟨_, rfl, by rw [size_ofL, ← line_eq]; exact hl, ?_⟩
      rw [ofL_list]
      exact h.lst s (reps_signs z)
    · cases e
  | lst h1 h2 => exact cd_list.run s (.lst h1 h2) e h
  | scr h1 h2 => exact cd_list.run s (.scr h1 h2) e h
  | tup h1 h2 => exact cd_list.run s (.tup h1 h2) e h
  | _ => simp [opListT, opList] at e
theorem ro_listT (hc : X.calm = true) (hg : Gl X "list") (hm : X.mg "list" = none) (ha : PE X a (tE X.K c f)) (hs : starEach [a] X.env = (false, eval a X.env) :: starEach [] X.env := by rfl) : PE X (.Call (.Name "list" p) [a] [] pos) (tO X.K c (own (e1 opListT f))) := by
  refine PE_imp (pe_callTy (T := "list") callr_U hg hm rfl (pa_cons ha pa_nil hs) (by decide) (by decide) hs rfl) fun σ H Q q => ?_
  obtain ⟨π, ρ, G, S, k⟩ := q
  unfold own e1 at k
  rw [Res.bind_bind] at k
  refine ⟨π, ρ, G, S, (Po.bind k).mono fun d1 ρ1 G1 H1 _ e1 S1 k1 w1 r1 => ?_⟩
  cases r1 with
  | str z =>
    simp only [opListT] at k1
    split at k1
    · rename_i hl
      refine rUC_of (call_list_sgn hc) ⟨_, rfl, by rw [size_ofL, ← line_eq]; exact hl, ?_⟩
      rw [ofL_list]
      exact own_new S1 e1 k1 (reps_signs z)
    · exact False.elim k1
  | lst h1 h2 => exact rUC_of call_list_of ⟨_, _, rfl, .inl (SqL.of (S1.sub _ _ h1)), own_new S1 e1 k1 h2⟩
  | scr h1 h2 => exact rUC_of call_list_of ⟨_, _, rfl, .inl (S1.sub.seq h1), own_new S1 e1 k1 h2⟩
  | tup h1 h2 => exact rUC_of call_list_of ⟨_, _, rfl, .inr (Same.tupS S1.sub h1), own_new S1 e1 k1 h2⟩
  | _ => exact False.elim k1
theorem opd_band : OpD X (binaryOp .BitAnd) opBAnd := by
  refine ⟨fun {G H x y a b d Q} s ra rb e h => ?_⟩
  cases a with
  | int i =>
    cases b with
    | int j =>
      by_cases hj : j = 1
      · subst hj
        simp only [opBAnd] at e
        split at e
        · rename_i h0
          obtain rfl := Option.some.inj e
          cases ra; cases rb
          refine rU2_of op_odd ⟨i.toNat, by rw [show ((i.toNat : Nat) : Int) = i by omega], rfl, ?_⟩
          have := h.int s
          rwa [show ((i.toNat % 2 : Nat) : Int) = i % 2 by omega]
        · cases e
      · exfalso
        unfold opBAnd at e
        split at e
        · rename_i h1 h2
          exact hj (D.int.inj h2)
        · cases e
    | _ => simp [opBAnd] at e
  | _ => simp [opBAnd] at e
end
end NV

set_option Elab.async false
set_option linter.all false
set_option maxRecDepth 100000
set_option maxHeartbeats 4000000
/-! Lay50: a list comprehension that an exception leaves. -/
namespace NV
open PySem PySem.Spec PyProof.Rows L2
section
variable {X : Cx} {W : WX} {c : Lv}
/-- an exception within the block goes on in the def -/
theorem blk_flies (tk : Takes X W) (hs : X.stack = X.env :: X.outer) (hf : X.env.frame = some X.env.locals) {ce : PySem.Env} (hcf : ce.frame = X.env.frame) {C : Addr} (hC : ce.locals = C)
    (k1 : C ≠ X.env.locals) (k2 : C ∈ X.ex ∨ X.s_0.heap.objs.size ≤ C) (k3 : ∀ x a, X.env.cells.lookup x = some a → a ≠ C) (k4 : ∀ p ∈ X.pn, p.1 ≠ C)
    {u : Value} {s' : Shared} {m : Str → Option Value} (hn : s'.heap.Ns C m) (x : XE X (fun cls d σ H => W cls d σ H ∧ H C = none) u s') :
    notedBy (model X.prog X.w) X.A ce (CompFails (model X.prog X.w) X.A X.xe ce) u s' := by
  obtain ⟨a, B, sI, pins, σ, H, cls, d, rfl, I, nb, up, sky, na, os, ag, w, hCn⟩ := x
  show wpAny _ X.A (noteFrame (.ref a) ce) _ _ s'
  rw [noteFrame_env _ hcf]
  have hfr : X.A.frames = some (X.env :: X.outer) := by rw [I.ok.frames, hs]
  have fin : ∀ h1, HandSPX.HeldZ B X.stack a (Zc cls d) X.env.locals h1 → s'.heap.UpToSlots h1 → CompFails (model X.prog X.w) X.A X.xe ce (.ref a) { s' with heap := h1 } := by
    intro h1 hh up1
    have hn1 : h1.Ns C m := up1.ns hn
    refine ⟨m, by rw [hC]; exact hn1, fun h2 m2 hn2 hs2 => ?_⟩
    rw [hC] at hn2 hs2
    have hs2 : Heap.SameBut C h1 h2 := hs2
    obtain ⟨b1, b0, f1, oe, vs, T, oT, ts, he, hz, hd, hv1, hnT, hTe, hT, hdT, hv3⟩ := hh
    obtain ⟨oC, esC, epC, hoC, hdC, _⟩ := hn1
    have neC : ∀ {b : Addr} {o : Obj} {vs : Array Value}, h1.get? b = some o → o.data = .fields vs → b ≠ C := fun {b o vs} e q z => by
      rw [z, hoC] at e; cases e; rw [hdC] at q; cases q
    have aC := neC he hd
    have TC := neC hT hdT
    obtain ⟨B', g1, g2⟩ := restrict B fun b => decide (b ≠ C)
    have gB : ∀ b o, B'.get? b = some o → b ≠ C ∧ B.get? b = some o := fun b o e => by
      by_cases q : b = C
      · rw [g2 b (by simp [q])] at e; cases e
      · rw [g1 b (by simp [q])] at e; exact ⟨q, e⟩
    have gN : ∀ b, B.get? b = none → B'.get? b = none := fun b e => by
      cases q : B'.get? b with
      | none => rfl
      | some o => rw [(gB b o q).2] at e; cases e
    have st2 : B'.StaysIn h2 := fun b o e => by
      obtain ⟨q1, q2⟩ := gB b o e
      exact (hs2.2 b q1).trans (b1 b o q2)
    have ff2 : h2.FunFrames B' X.stack := funFrames_none (Heap.FunFrames.sameBut hs2 hn2 f1) fun b hb => gN b (f1.mem hb).1
    have tr2 : HandSPX.TracedZ h2 B' a (Zc cls d) (rawInt X.env.locals) := ⟨oe, vs, T, oT, ts, (hs2.2 a aC).trans he, hz, hd, hv1, gN T hnT, hTe, (hs2.2 T TC).trans hT, hdT, hv3⟩
    unfold PySem.passOn
    refine wpAny_bind (wpAny_field ((hs2.2 a aC).trans he) hd hv1 ?_)
    rw [if_neg (show ¬ ((Value.ref T == Value.none) = true) from by simp)]
    rw [hcf, hf]
    refine wpAny_bind (HandSPX.setFlight_anyZ (l := X.stack) st2 ff2 tr2 fun h3 s3 ff3 tr3 up3 => ?_)
    refine wpAny_throw ?_
    obtain ⟨G, g3, g4⟩ := restrict sI.heap fun b => decide (b ≠ C)
    have gG : ∀ b o, G.get? b = some o → b ≠ C ∧ sI.heap.get? b = some o := fun b o e => by
      by_cases q : b = C
      · rw [g4 b (by simp [q])] at e; cases e
      · rw [g3 b (by simp [q])] at e; exact ⟨q, e⟩
    have I0 : Inv X [] σ H sI := { I with pin := fun p hp => I.pin p (by rw [List.append_nil] at hp; exact List.mem_append_left _ hp) }
    have J : Inv X [] σ H { sI with heap := G, toks := sI.toks } := I0.turned (it := C) (fun b o hb e => by rw [g3 b (by simp [hb])]; exact e) hCn (fun z => k1 z) k2 k3 (fun p hp => k4 p (by rw [List.append_nil] at hp; exact hp))
    refine tk _ _ ⟨a, B', { sI with heap := G, toks := sI.toks }, [], σ, H, cls, d, rfl, J, fun b o e hb => ?_, fun b o e hnf => ?_, .inr (.inr ⟨s3, gN a b0, ff3, tr3⟩), na, os, ag, w⟩
    · obtain ⟨q1, q2⟩ := gG b o e
      rw [g1 b (by simp [q1])]
      exact nb b o q2 hb
    · obtain ⟨q1, q2⟩ := gG b o e
      obtain ⟨sl1, e1⟩ := up b o q2 hnf
      obtain ⟨sl2, e2⟩ := up1 b _ e1 hnf
      have e2 : h2.get? b = some { o with slots := sl2 } := (hs2.2 b q1).trans e2
      obtain ⟨sl3, e3⟩ := up3 b _ e2 hnf
      exact ⟨sl3, e3⟩
  rw [hs] at sky fin
  rcases sky with ⟨hB, hne, hl, oe, vs, he, hz, hd, h1⟩ | fl | hh
  · exact HandSPX.look_newZ Zc.steady hfr hl hf he hB hne hd h1 hz fin
  · exact HandSPX.looks_onZ Zc.steady hfr hf fl fin
  · exact HandSPX.againZ hf hh.2.2.2 (fin s'.heap hh (Heap.UpToSlots.refl _))
/-- [elt for target in iter], where what leaves the element leaves the def's expression -/
theorem pe_lcR {elt tg iter : Expr} {scope : Scope} {own : List (Str × Nat)} {pos : Pos} {wi : TI} {g : TG} {te : WX → TE} (tk : Takes X W) (hs : X.stack = X.env :: X.outer) (hf : X.env.frame = some X.env.locals) (hc : X.calm = true) (hN : X.N.Nodup) (hi : PI X tg iter wi) (ok : BlkOk X.N X.env.scope scope own)
    (hg : ∀ (s : Shared) (H : Hp) (C : Addr) (cl : List (Str × Addr)) (fp : List Addr) (xe : Value → Shared → Prop), PG ((X.blk s H scope (compEnvC scope cl C X.env) fp).wish xe) tg g)
    (he : ∀ (s : Shared) (H : Hp) (C : Addr) (cl : List (Str × Addr)) (fp : List Addr) (xe : Value → Shared → Prop) (W2 : WX), (∀ σ', PassesAt (L2.CX X.prog X.w) ((X.blk s H scope (compEnvC scope cl C X.env) fp).wish xe) σ' (WE W2 σ')) → PE ((X.blk s H scope (compEnvC scope cl C X.env) fp).wish xe) elt (te W2))
    (hsf : ∀ x, foldedSetIterable iter X.env x = pure x := by intro _; rfl) :
    PE X (.ListComp elt [⟨tg, iter, [], 0⟩] scope pos) (fun σ H Q => tLc wi g tYes (te fun cls d _ H' => W cls d σ H') (own.map (·.2)) σ H Q) := by
  refine ⟨fun pins s σ H Q I h => ?_⟩
  rw [eval_ListComp]
  have hfree : ∀ y ∈ scope.names, y.2 = .free → ∃ c, X.env.cells.lookup y.1 = some c := fun y hy e => by
    rcases ok.free y hy e with k | k
    · exact I.ok.has _ (.inl k)
    · exact I.ok.has _ (.inr k)
  refine comprehension_at (use := none) rfl hsf (closure_ok hfree) ok.kind (fun y hy e => by rw [ok.uniq y hy, e])
    (thn (hi.run pins s σ H _ I h) fun xv s1 hx => thn hx fun itv s2 h2 => ?_)
  obtain ⟨it, fp, tn, J, H2, e, I2, T, st2, f2, q⟩ := h2
  subst e
  refine wpAny_newObj_type (newEnv_comp ?_) (by show 0 ≤ sizeLine; decide)
  generalize hD : s2.heap.objs.size = D
  have hDn : H2 D = none := I2.hok.fresh (Nat.le_of_eq hD)
  obtain ⟨Wm, ⟨m0, w0⟩, turn⟩ := q D hDn
  generalize hs3 : ({ s2 with heap := s2.heap.push { cls := .type "list", data := .seq ([] : List Value).toArray } } : Shared) = s3
  have I3 : Inv X pins σ (upd H2 D (.lst [])) s3 := by
    rw [← hs3]
    refine I2.laid (t' := s2.toks) (fun b o e => Heap.get?_push_of_some _ e) (Nat.le_of_eq hD) ⟨Nat.zero_le _, [], 0, .nil, ?_⟩
    rw [← hD]
    exact Heap.get?_push_size _ rfl
  have h3 : s3.heap = s2.heap.push { cls := .type "list", data := .seq ([] : List Value).toArray } := by rw [← hs3]
  have sz : ∀ b ∈ fp, b < s2.heap.objs.size := fun b hb => by
    obtain ⟨o, e, _⟩ := T.obj _ _ st2 b hb
    exact Heap.lt_size e
  have f3 : ∀ b ∈ fp, FpOk X pins (upd H2 D (.lst [])) b ∧ b < s3.heap.objs.size := fun b hb => by
    have hlt := sz b hb
    refine ⟨⟨?_, (f2 b hb).2⟩, by rw [h3, Heap.size_push]; exact Nat.lt_succ_of_lt hlt⟩
    rw [upd_ne (by rw [← hD]; exact Nat.ne_of_lt hlt)]
    exact (f2 b hb).1
  have st3 : tn 0 s3.heap := T.keep _ _ _ st2 fun b _ o e => by rw [h3]; exact Heap.get?_push_of_some _ e
  have I4' := block_start I3 ok hN f3
  generalize hce : compEnvC scope (cellsFrom (s3.heap.objs.size + 1) scope.names (cloFrom X.env.cells scope.names [])) s3.heap.objs.size X.env = ce at I4'
  have cF : ce.frame = X.env.frame := by subst hce; rfl
  have cL : ce.locals = s3.heap.objs.size := by subst hce; rfl
  generalize hxe : notedBy (model X.prog X.w) X.A ce (CompFails (model X.prog X.w) X.A X.xe ce) = xe
  have I4 := I4'.wish xe
  -- back in the def's context
  have back : ∀ {pinsB : List (Addr × Obj)} {σ' : St} {H' : Hp} {s' : Shared}, Inv ((X.blk s3 (upd H2 D (.lst [])) scope ce fp).wish xe) pinsB σ' H' s' → Inv X pins σ H' s' ∧ H' s3.heap.objs.size = none ∧ ∃ m, s'.heap.Ns s3.heap.objs.size m := fun {pinsB σ' H' s'} I6 => by
    have nC : H' s3.heap.objs.size = none := by
      have z : H' ce.locals = none := I6.free
      rw [cL] at z
      exact z
    obtain ⟨m, hn, _⟩ := I6.loc
    have hn : s'.heap.Ns ce.locals m := hn
    rw [cL] at hn
    exact ⟨I3.call' (ch := fp) I6.os I6.base I6.hok I6.bare fun b hb => ⟨(f3 b hb).1.2.2.2.1, (f3 b hb).1.2.1, (f3 b hb).1.2.2.2.2.1, (f3 b hb).1.2.2.2.2.2⟩, nC, m, hn⟩
  have pass : ∀ σ', PassesAt (L2.CX X.prog X.w) ((X.blk s3 (upd H2 D (.lst [])) scope ce fp).wish xe) σ' (WE (fun cls d _ H' => W cls d σ H') σ') := fun σ' pinsB H1 s5 e s' IB cx => by
    obtain ⟨J5, nC, m, hn⟩ := back IB
    obtain ⟨f0, f1, f2', f3', f4, f5⟩ := I3.fpOk (Nat.le_refl _) nC
    obtain ⟨a, B, H', cls, d, rfl, fl, hok, ub, na, os, ag, hE⟩ := cx
    have notF : s3.heap.objs.size ∉ frs X.stack := fun hm => by
      rcases List.mem_cons.mp (J5.stkSub _ hm) with z | z
      · exact f1 z
      · exact f2' z
    obtain ⟨oC, es, ep, hoC, hdC, r⟩ := hn
    have hB := ub.keep _ oC hoC nC notF
    have hn' : s'.heap.Ns s3.heap.objs.size m := ⟨oC, es, ep, fl.1 _ _ hB, hdC, r⟩
    have x : XE X (fun cls d σ H => W cls d σ H ∧ H s3.heap.objs.size = none) (.ref a) s' := XE.of_call (E := fun cls d H'' => W cls d σ H'' ∧ H'' s3.heap.objs.size = none) J5 (fun _ _ _ h => h) ⟨a, B, H', cls, d, rfl, fl, hok, ub, na, os, ag, hE, ub.free _ oC hoC nC⟩
    have := blk_flies tk hs hf cF cL f1 f3' f4 (fun p hp => f5 p (List.mem_append_left _ hp)) hn' x
    show xe _ _
    rw [← hxe]
    exact this
  have pg : PG ((X.blk s3 (upd H2 D (.lst [])) scope ce fp).wish xe) tg g := by rw [← hce]; exact hg _ _ _ _ _ _
  have pe : PE ((X.blk s3 (upd H2 D (.lst [])) scope ce fp).wish xe) elt (te fun cls d _ H' => W cls d σ H') := by
    rw [← hce] at pass ⊢
    exact he _ _ _ _ _ _ _ pass
  show codeAny _ _ (.compStart (.ListComp elt [⟨tg, iter, [], 0⟩] scope pos) 0 (.ref it) (.ref D) (compEnvC scope (cellsFrom (s3.heap.objs.size + 1) scope.names (cloFrom X.env.cells scope.names [])) s3.heap.objs.size X.env)) (compEnds (model X.prog X.w) X.A X.xe none (EP X pins σ Q) (.ref D) (compEnvC scope (cellsFrom (s3.heap.objs.size + 1) scope.names (cloFrom X.env.cells scope.names [])) s3.heap.objs.size X.env)) { s3 with heap := pushCells (s3.heap.push { cls := .type "dict", data := .dict #[] }) scope.names }
  rw [hce]
  have nfp : ∀ b ∈ fp, (upd H2 D (.lst [])) b = none := fun b hb => (f3 b hb).1.1
  generalize hH3 : upd H2 D (.lst []) = H3 at I3 I4 I4' pg pe w0 nfp f3 back pass
  generalize hs4 : ({ s3 with heap := pushCells (s3.heap.push { cls := .type "dict", data := .dict #[] }) scope.names } : Shared) = s4 at I4 I4' ⊢
  have st4 : tn 0 s4.heap := T.keep _ _ _ st3 fun b _ o e => by rw [← hs4]; exact pushCells_keeps _ _ _ _ (Heap.get?_push_of_some _ e)
  have stat : ∀ {σ' : St} {H' : Hp} {s' : Shared}, Inv ((X.blk s3 H3 scope ce fp).wish xe) [] σ' H' s' → (∀ b ∈ fp, H' b = none) → ∀ b ∈ fp, FpOk ((X.blk s3 H3 scope ce fp).wish xe) [] H' b := fun {σ' H' s'} I' hn b hb =>
    ⟨hn b hb, (I'.ok.exf b hb).1, I'.ok.exfs b hb, .inl hb, fun x c e => (I'.ok.exf b hb).2 x c e, fun p hp => absurd (show p ∈ ([] : List (Addr × Obj)) ++ [] from hp) (by simp)⟩
  have hxe2 : (notedBy (model X.prog X.w) X.A ce fun e s' => compEnds (model X.prog X.w) X.A X.xe none (EP X pins σ Q) (.ref D) ce (.error e) s') = xe := hxe
  have loop : codeAny (model X.prog X.w) X.A (.compLoop (.ListComp elt [⟨tg, iter, [], 0⟩] scope pos) 0 (.ref it) (.ref D) ce) (compEnds (model X.prog X.w) X.A X.xe none (EP X pins σ Q) (.ref D) ce) s4 := by
    refine compLoop_any (fun n s' => ∃ i H', Inv ((X.blk s3 H3 scope ce fp).wish xe) [] (L2.wipe σ (own.map (·.2))) H' s' ∧ tn i s'.heap ∧ (∀ b ∈ fp, H' b = none) ∧ Wm i n H') ?_ m0 ⟨0, H3, I4, st4, nfp, w0⟩
    rw [hxe2]
    rintro n s5 ⟨i, H5, I5, st5, n5, w5⟩
    rcases turn i n H5 w5 with ⟨stop, qq⟩ | ⟨go, Nx, hNx, step⟩
    · have td := T.done ((X.blk s3 H3 scope ce fp).wish xe) rfl rfl rfl hc i [] s5 _ H5 (fun _ _ => False) I5 (stat I5 n5) st5 stop
      refine thnF td fun r s6 ⟨hr, I6⟩ => ?_
      subst hr
      obtain ⟨I7, nC, m, hn⟩ := back I6
      have hn2 : s6.heap.Ns ce.locals m := by rw [cL]; exact hn
      refine ⟨m, hn2, fun h'' sb => ?_⟩
      rw [cL] at sb
      have sb : Heap.SameBut s3.heap.objs.size s6.heap h'' := sb
      obtain ⟨f0, f1, f2', f3', f4, f5⟩ := I3.fpOk (Nat.le_refl _) nC
      exact ⟨.ref D, H5, I7.turned (t' := s6.toks) (fun b o hb e => (sb.2 b hb).trans e) f0 f1 f3' f4 f5, rfl, qq⟩
    · have ti := T.item ((X.blk s3 H3 scope ce fp).wish xe) rfl rfl rfl hc i [] s5 _ H5 (fun _ _ => False) I5 (stat I5 n5) st5 go
      refine thnF ti fun r s6 ⟨u, hr, h6⟩ => ?_
      subst hr
      refine thnF h6 fun _ s7 ⟨x, H7, I7, r7, y7, st7, n7⟩ => ?_
      have I7' := I7.pinned (stat I7 n7) (T.obj _ _ st7)
      refine thn (pg.run _ s7 _ H7 x u _ I7' r7 (step x H7 y7)) fun _ s8 ⟨σ8, H8, I8, hw8, q8⟩ => ?_
      refine wpAny_of_eq (List.forIn_nil ..) ?_
      have fin : ∀ {s' : Shared} {H' : Hp}, Inv ((X.blk s3 H3 scope ce fp).wish xe) ([] ++ pinsAt fp s7.heap) σ8 H' s' → Nx H' → ∃ m, m < n ∧ ∃ i H', Inv ((X.blk s3 H3 scope ce fp).wish xe) [] (L2.wipe σ (own.map (·.2))) H' s' ∧ tn i s'.heap ∧ (∀ b ∈ fp, H' b = none) ∧ Wm i m H' := fun {s' H'} I' nx => by
        obtain ⟨m', hm, w'⟩ := hNx H' nx
        have pin' : ∀ b ∈ fp, ∀ o, s7.heap.get? b = some o → s'.heap.get? b = some o ∧ H' b = none := fun b hb o e =>
          let z := I'.pin (b, o) (List.mem_append_right _ (List.mem_append_right _ (mem_pinsAt hb e)))
          ⟨z.1, z.2.1⟩
        have hl : (L2.wipe σ (own.map (·.2))).length = σ8.length := by rw [← hw8, wipe_length]
        refine ⟨m', hm, i + 1, H', (I'.unpinned (pins := [])).weak hl (fun j v e => ?_), T.keep _ _ _ st7 fun b hb o e => (pin' b hb o e).1, fun b hb => ?_, w'⟩
        · rw [← hw8] at e
          exact (wipe_some e).1
        · obtain ⟨o, e, _⟩ := T.obj _ _ st7 b hb
          exact (pin' b hb o e).2
      rw [if_pos rfl]
      have q9 : te (fun cls d _ H' => W cls d σ H') σ8 H8 fun y H4 => ∃ acc, H4 D = some (.lst acc) ∧ acc.length < sizeLine ∧ Nx (upd H4 D (.lst (acc ++ [y]))) := by
        have z : (if true = true then te (fun cls d _ H' => W cls d σ H') σ8 H8 (fun y H4 => ∃ acc, H4 D = some (.lst acc) ∧ acc.length < sizeLine ∧ Nx (upd H4 D (.lst (acc ++ [y])))) else Nx H8) := q8
        rw [if_pos rfl] at z
        exact z
      refine thn (pe.run _ s8 σ8 H8 _ I8 q9) fun z s10 ⟨yv, H10, I10, r10, acc, hD10, hz10, nx⟩ => ?_
      exact app_ok (X := (X.blk s3 H3 scope ce fp).wish xe) I10 hD10 hz10 r10 fun s11 I11 => fin I11 nx
  exact codeAny_compStart_list loop (T.self X.A 0 _ _ _ st4 loop)
end
/-- the block's level: what leaves it leaves the def's expression -/
def Lv.at (c : Lv) (σ : St) : Lv := ⟨c.Z, fun cls d _ H' => c.W cls d σ H'⟩
section
variable {X : Cx} {c : Lv} {it : Ei} {tg iter : Expr} {pos : Pos}
theorem t_compR {g : Tg} {ws : List Nat} {f : Ev} {σ : St} {H : Hp} {Q : VK} (hg : ∀ i ∈ g.slots, i ∈ ws) (q : tE X.K c (eCompR g ws it f) σ H Q) :
    tLc (tI X.K c it) (rG X.K g) tYes (tE X.K (c.at σ) f) ws σ H Q := by
  obtain ⟨π, ρ, G, S, k⟩ := q
  refine ⟨π, ρ, G, S, (Po.bind k).mono fun xs ρ1 G1 H1 s1 e1 S1 k1 J hJ Dd hD => ?_⟩
  generalize hR : compL g ws none f xs [] ρ1 = R at k1
  have gD : G1 Dd = none := by
    cases z : G1 Dd with
    | none => rfl
    | some o => rw [S1.sub _ _ z] at hD; cases hD
  have oD : ¬ Ownd ρ1 σ Dd := fun z => by
    obtain ⟨_, o, h2⟩ := S1.own z
    rw [hD] at h2; cases h2
  obtain ⟨Sw, ew⟩ := S1.wipeσ ws
  have oDw : ¬ Ownd (wipeE ρ1 ws) (L2.wipe σ ws) Dd := fun z => by
    obtain ⟨_, o, h2⟩ := Sw.own z
    rw [hD] at h2; cases h2
  refine lc_it hJ (fun i H => ∃ (ρ : Env) (G : Hp) (acc : List D) (av : List V), SE X.K π (wipeE ρ ws) G (L2.wipe σ ws) H ∧ Same G1 G ∧ Ext (wipeE ρ1 ws) (L2.wipe σ ws) G1 H1 (wipeE ρ ws) (L2.wipe σ ws) G H ∧ H Dd = some (.lst av) ∧ Reps X.K G av acc ∧ G Dd = none ∧ ¬ Ownd (wipeE ρ ws) (L2.wipe σ ws) Dd ∧ compL g ws none f (xs.drop i) acc ρ = R) ?_ ?_ ?_ ?_
  · refine ⟨ρ1, G1, [], [], Sw.apart gD oDw, Same.refl _, fun b o hb n => ⟨?_, n, fun z => z⟩, upd_same, .nil, gD, oDw, by rw [List.drop_zero]; exact hR⟩
    rw [upd_ne (fun z => by subst z; rw [hD] at hb; cases hb)]
    exact hb
  · rintro i H _ ⟨ρ, G, acc, av, S, s, _⟩
    exact s.trans S.sub
  · rintro i x H H' hi ⟨ρ, G, acc, av, S, s, e, hd, ra, gd, od, run⟩ ⟨d, hdx, hy⟩
    obtain ⟨Gi, gr, rd⟩ := hy G s S.sub
    obtain ⟨S', e'⟩ := S.grow gr
    have hlt : i < xs.length := hi
    have ed : xs.drop i = d :: xs.drop (i + 1) := by
      have : xs[i] = d := by
        rw [List.getElem?_eq_getElem hlt] at hdx
        exact Option.some.inj hdx
      rw [← this]
      exact List.drop_eq_getElem_cons hlt
    rw [ed] at run
    unfold compL at run
    cases z : g.put d (wipeE ρ ws) with
    | none =>
      rw [z] at run
      subst run
      exact False.elim k1
    | some ρ3 =>
      simp only [z] at run
      refine ⟨π, wipeE ρ ws, Gi, d, ρ3, S', rd, z, fun σ' e3 S3 hw => ?_⟩
      have hσ : L2.wipe σ' ws = L2.wipe σ ws := (hw ws hg).trans (wipe_wipe σ ws)
      refine ⟨by rw [hσ], ?_⟩
      have key : ∀ {Q : Bool → Hp → Prop}, Q true H' → tYes σ' H' Q := fun q => q
      refine key ?_
      rw [if_pos rfl]
      refine ⟨π, ρ3, Gi, S3, ?_⟩
      cases y : f ρ3 with
      | ok d' ρ5 =>
        rw [y] at run
        have run : (if acc.length < line then compL g ws none f (xs.drop (i + 1)) (acc ++ [d']) ρ5 else .st) = R := run
        split at run
        · rename_i hl
          intro G5 H5 s5 e5 S5 w r5
          have eAll := (e'.trans e3).trans e5
          obtain ⟨hD5, oD5, gD5⟩ := eAll Dd _ hd od
          obtain ⟨S6, e6⟩ := S5.wipeσ ws
          rw [hσ] at S6 e6
          obtain ⟨_, oD6, _⟩ := e6 Dd _ hD5 oD5
          have sAll := gr.g.trans s5
          have hll : av.length < sizeLine := by rw [ra.length, ← line_eq]; exact hl
          refine ⟨av, hD5, hll, ρ5, G5, acc ++ [d'], av ++ [w], S6.apart (gD5 gd) oD6, s.trans sAll, fun b o hb n => ?_, upd_same, (Reps.mono sAll _ _ ra).append (.cons r5 .nil), gD5 gd, oD6, run⟩
          obtain ⟨a1, a2, a3⟩ := ((e.trans eAll).trans e6) b o hb n
          refine ⟨?_, a2, a3⟩
          rw [upd_ne (fun z => by subst z; rw [hD] at hb; cases hb)]
          exact a1
        · subst run
          exact False.elim k1
      | rz x ρ5 =>
        rw [y] at run
        have run : Res.rz x ρ5 = R := run
        subst run
        intro cls dd G5 H5 s5 e5 S5 hz
        have eAll := (e'.trans e3).trans e5
        obtain ⟨S6, e6⟩ := S5.wipeσ ws
        rw [hσ] at S6 e6
        have sAll := s.trans (gr.g.trans s5)
        obtain ⟨S7, o7⟩ := S1.unwipe sAll S6
        refine k1 cls dd G5 H5 sAll (fun b o hb n => ?_) S7 hz
        obtain ⟨a1, a2, a3⟩ := (((ew.trans e).trans eAll).trans e6) b o hb n
        exact ⟨a1, fun z => a2 (o7 b z), a3⟩
      | st =>
        rw [y] at run
        have run : Res.st = R := run
        subst run
        exact False.elim k1
  · rintro H ⟨ρ, G2, acc, av, S, s, e, hd, ra, gd, od, run⟩
    rw [List.drop_length] at run
    unfold compL at run
    subst run
    obtain ⟨S2, o2⟩ := S1.unwipe s S
    have od2 : ¬ Ownd (NV.unwipe ρ1 ρ ws) σ Dd := fun z => od (o2 Dd z)
    have sG : Same G2 (L2.upd G2 Dd (.lst av)) := Same.new gd
    have S3 : SE X.K π (NV.unwipe ρ1 ρ ws) (L2.upd G2 Dd (.lst av)) σ H := by
      refine ⟨fun b o hb => ?_, S2.len, fun i s hs => ?_, S2.inj⟩
      · by_cases hb' : b = Dd
        · subst hb'; rw [upd_same] at hb; rw [hd]; exact hb
        · rw [upd_ne hb'] at hb; exact S2.sub _ _ hb
      · have kk := S2.ok i s hs
        cases s with
        | un => trivial
        | v d => obtain ⟨w, e, r⟩ := kk; exact ⟨w, e, r.mono sG _⟩
        | o d =>
          obtain ⟨p, e, a1, a2⟩ := kk
          exact ⟨p, e, by rw [upd_ne (fun z => od2 ⟨i, _, hs, rfl, by rw [← z]; exact e⟩)]; exact a1, a2.mono sG rfl⟩
        | io j d =>
          obtain ⟨e, a1, a2⟩ := kk
          exact ⟨e, by rw [upd_ne (fun z => od2 ⟨i, _, hs, rfl, by rw [← z]; exact e⟩)]; exact a1, a2.mono sG rfl⟩
    refine k1 _ H (s.trans sG) (fun b o hb n => ?_) S3 _ (.lst upd_same (Reps.mono sG _ _ ra))
    obtain ⟨a1, a2, a3⟩ := (ew.trans e) b o hb n
    refine ⟨a1, fun z => a2 (o2 b z), fun z => ?_⟩
    rw [upd_ne (fun z => by subst z; rw [hD] at hb; cases hb)]
    exact a3 z
theorem re_compR {g : Tg} {f : Ev} {own : List (Str × Nat)} {scope : Scope} {elt : Expr} (tk : Takes X c.W) (hst : X.stack = X.env :: X.outer) (hf : X.env.frame = some X.env.locals) (hc : X.calm = true) (hN : X.N.Nodup) (hi : PI X tg iter (tI X.K c it)) (ok : blkC X.N X.env.scope scope own = true)
    (hg : ∀ (s : Shared) (H : Hp) (C : Addr) (cl : List (Str × Addr)) (fp : List Addr) (xe : Value → Shared → Prop), PG ((X.blk s H scope (compEnvC scope cl C X.env) fp).wish xe) tg (rG X.K g))
    (he : ∀ (s : Shared) (H : Hp) (C : Addr) (cl : List (Str × Addr)) (fp : List Addr) (xe : Value → Shared → Prop) (W2 : WX), (∀ σ', PassesAt (L2.CX X.prog X.w) ((X.blk s H scope (compEnvC scope cl C X.env) fp).wish xe) σ' (WE W2 σ')) → PE ((X.blk s H scope (compEnvC scope cl C X.env) fp).wish xe) elt (tE X.K ⟨c.Z, W2⟩ f))
    (hgs : ∀ i ∈ g.slots, i ∈ own.map (·.2)) (hs : ∀ x, foldedSetIterable iter X.env x = pure x := by intro _; rfl) :
    PE X (.ListComp elt [⟨tg, iter, [], 0⟩] scope pos) (tE X.K c (eCompR g (own.map (·.2)) it f)) :=
  PE_imp (pe_lcR (te := fun W2 => tE X.K ⟨c.Z, W2⟩ f) tk hst hf hc hN hi (blkOk_by ok) hg he hs) fun σ H Q q => t_compR hgs q
end
section
variable {X : Cx} {c : Lv} {e : Expr} {es : List Expr} {fs : Ea} {pos p : Pos} {x : Str} {s : Df} {n k : Nat} {f : Addr} {fd : FuncData} {ps : List Str}
theorem ro_callP (F : FnOk X.prog X.w X.K X.mg X.base (L2.CX X.prog X.w) k f fd ps (spD X.K c.Z n s)) (hn : ∀ as, s as ≠ .st → as.length = n) (hr : Room k X.A) (hg : Gl X x) (hm : X.mg x = some (.ref f)) (hk : PySem.W.keepIn X.K (.ref f) = true) (hb : Binds X.K fd ps []) (hx : ∀ σ, PassesAt (L2.CX X.prog X.w) X σ (WE c.W σ))
    (ha : PA X (e :: es) (tA X.K c fs)) (hdb : (x == ("__debug__" : Str)) = false := by decide) (he : starEach (e :: es) X.env = (false, eval e X.env) :: starEach es X.env := by rfl) (hpl : (backTo pos (starEach es X.env)).any (·.1) = false := by rfl) :
    PE X (.Call (.Name x p) (e :: es) [] pos) (tO X.K c (eCall s fs)) := PE_imp (pe_callS F hr hg hm hk hb hx ha hdb he hpl) fun σ H Q q => by
  obtain ⟨π, ρ, G, S, k⟩ := q
  refine ⟨π, ρ, G, S, (Po.bind k).mono fun ds ρ1 G1 H1 s1 e1 S1 k1 vs r => ?_⟩
  have SC := SE.args S1.sub r π
  have hlen : s (ds.map .v) ≠ .st → vs.length = n := fun z => by
    have := hn _ z
    rw [List.length_map] at this
    rw [r.length, this]
  cases z : s (ds.map Sl.v) with
  | ok rr as' =>
    simp only [z] at k1
    refine ⟨hlen (by rw [z]; exact fun q => by cases q), π, _, G1, SC, ?_⟩
    rw [z]
    intro G' H' s' e' S' w q
    obtain ⟨S2, e2⟩ := S1.after s' S'.sub fun b o hb => by
      obtain ⟨a1, _, a3⟩ := e' b o hb noOwn_v
      exact ⟨a1, a3⟩
    refine k1 G' H' s' e2 S2 w ?_
    cases rr with
    | v d => exact q
    | o d =>
      obtain ⟨pp, rfl, q1, q2, q3, q4⟩ := q
      have h1 : H1 pp = none := q4.resolve_right noOwn_v
      refine ⟨pp, rfl, q1, q2, fun z => ?_, ?_⟩
      · obtain ⟨_, o, ho⟩ := S1.own z
        rw [h1] at ho; cases ho
      · cases zz : H pp with
        | none => exact .inl rfl
        | some o =>
          by_cases m : Ownd ρ σ pp
          · exact .inr m
          · have := (e1 pp o zz m).1
            rw [h1] at this; cases this
    | un => exact False.elim q
    | io _ _ => exact False.elim q
  | rz xx as' =>
    simp only [z] at k1
    refine ⟨hlen (by rw [z]; exact fun q => by cases q), π, _, G1, SC, ?_⟩
    rw [z]
    intro cls d G' H' s' e' S' hz
    obtain ⟨S2, e2⟩ := S1.after s' S'.sub fun b o hb => by
      obtain ⟨a1, _, a3⟩ := e' b o hb noOwn_v
      exact ⟨a1, a3⟩
    exact k1 cls d G' H' s' e2 S2 hz
  | st => simp only [z] at k1; exact False.elim k1
end
end NV

set_option Elab.async false
set_option linter.all false
set_option maxRecDepth 100000
/-! M: words for the plain laws: loops, numbers, indexes. -/
namespace NV
def sq (r : Res Fl) (b : Es) : Res Fl := match r with
  | .ok .nx ρ => b ρ
  | r => r
def callR (r : Res Sl) (ρ : Env) : Res Sl := match r with
  | .ok r _ => .ok r ρ
  | .rz x _ => .rz x ρ
  | .st => .st
def runR (as : Env) (r : Res Fl) : Res Sl := match r with
  | .ok (.ret r) ρ => .ok r (lent as ρ)
  | .ok .nx ρ => .ok (.v .non) (lent as ρ)
  | .ok _ _ => .st
  | .rz x ρ => .rz x (lent as ρ)
  | .st => .st
def thawR (r : Res D) (ρ : Env) : Res D := match r with
  | .ok d _ => if d.flat then .ok d ρ else .st
  | _ => .st
/-! what stands behind a part, by name: simp then sees no body ahead of its turn -/
def k1 (g : D → Option D) (r : Res D) : Res D := r.bind fun a ρ => out (g a) ρ
@[simp] theorem k1_ok (g : D → Option D) (a : D) (ρ : Env) : k1 g (.ok a ρ) = out (g a) ρ := id rfl
@[simp] theorem k1_rz (g : D → Option D) (x : Exn) (ρ : Env) : k1 g (.rz x ρ) = .rz x ρ := id rfl
def k2b (g : D → D → Option D) (a : D) (r : Res D) : Res D := r.bind fun b ρ => out (g a b) ρ
@[simp] theorem k2b_ok (g : D → D → Option D) (a : D) (b : D) (ρ : Env) : k2b g a (.ok b ρ) = out (g a b) ρ := id rfl
@[simp] theorem k2b_rz (g : D → D → Option D) (a : D) (x : Exn) (ρ : Env) : k2b g a (.rz x ρ) = .rz x ρ := id rfl
def k2 (g : D → D → Option D) (h : Ev) (r : Res D) : Res D := r.bind fun a ρ => k2b g a (h ρ)
@[simp] theorem k2_ok (g : D → D → Option D) (h : Ev) (a : D) (ρ : Env) : k2 g h (.ok a ρ) = k2b g a (h ρ) := id rfl
@[simp] theorem k2_rz (g : D → D → Option D) (h : Ev) (x : Exn) (ρ : Env) : k2 g h (.rz x ρ) = .rz x ρ := id rfl
def kCb (a : D) (r : Res (List D)) : Res (List D) := r.bind fun as ρ => .ok (a :: as) ρ
@[simp] theorem kCb_ok (a : D) (as : (List D)) (ρ : Env) : kCb a (.ok as ρ) = .ok (a :: as) ρ := id rfl
@[simp] theorem kCb_rz (a : D) (x : Exn) (ρ : Env) : kCb a (.rz x ρ) = .rz x ρ := id rfl
def kC (fs : Ea) (r : Res D) : Res (List D) := r.bind fun a ρ => kCb a (fs ρ)
@[simp] theorem kC_ok (fs : Ea) (a : D) (ρ : Env) : kC fs (.ok a ρ) = kCb a (fs ρ) := id rfl
@[simp] theorem kC_rz (fs : Ea) (x : Exn) (ρ : Env) : kC fs (.rz x ρ) = .rz x ρ := id rfl
def kOwn  (r : Res D) : Res Sl := r.bind fun d ρ => .ok (.o d) ρ
@[simp] theorem kOwn_ok  (d : D) (ρ : Env) : kOwn  (.ok d ρ) = .ok (.o d) ρ := id rfl
@[simp] theorem kOwn_rz  (x : Exn) (ρ : Env) : kOwn  (.rz x ρ) = .rz x ρ := id rfl
def kSet (i : Nat) (r : Res D) : Res Fl := r.bind fun d ρ => .ok .nx (ρ.set i (.v d))
@[simp] theorem kSet_ok (i : Nat) (d : D) (ρ : Env) : kSet i (.ok d ρ) = .ok .nx (ρ.set i (.v d)) := id rfl
@[simp] theorem kSet_rz (i : Nat) (x : Exn) (ρ : Env) : kSet i (.rz x ρ) = .rz x ρ := id rfl
def kSetO (i : Nat) (r : Res Sl) : Res Fl := r.bind fun r1 ρ => .ok .nx (ρ.set i r1)
@[simp] theorem kSetO_ok (i : Nat) (r1 : Sl) (ρ : Env) : kSetO i (.ok r1 ρ) = .ok .nx (ρ.set i r1) := id rfl
@[simp] theorem kSetO_rz (i : Nat) (x : Exn) (ρ : Env) : kSetO i (.rz x ρ) = .rz x ρ := id rfl
def kRet  (r : Res D) : Res Fl := r.bind fun d ρ => .ok (.ret (.v d)) ρ
@[simp] theorem kRet_ok  (d : D) (ρ : Env) : kRet  (.ok d ρ) = .ok (.ret (.v d)) ρ := id rfl
@[simp] theorem kRet_rz  (x : Exn) (ρ : Env) : kRet  (.rz x ρ) = .rz x ρ := id rfl
def kRetO  (r : Res Sl) : Res Fl := r.bind fun r1 ρ => .ok (.ret r1) ρ
@[simp] theorem kRetO_ok  (r1 : Sl) (ρ : Env) : kRetO  (.ok r1 ρ) = .ok (.ret r1) ρ := id rfl
@[simp] theorem kRetO_rz  (x : Exn) (ρ : Env) : kRetO  (.rz x ρ) = .rz x ρ := id rfl
def kDrop  (r : Res D) : Res Fl := r.bind fun _ ρ => .ok .nx ρ
@[simp] theorem kDrop_ok  (z : D) (ρ : Env) : kDrop  (.ok z ρ) = .ok .nx ρ := id rfl
@[simp] theorem kDrop_rz  (x : Exn) (ρ : Env) : kDrop  (.rz x ρ) = .rz x ρ := id rfl
def kFor (t : Tg) (ks : List Nat) (b : Es) (r : Res (List D)) : Res Fl := r.bind fun xs ρ => forL t ks b xs (wipeE ρ ks)
@[simp] theorem kFor_ok (t : Tg) (ks : List Nat) (b : Es) (xs : (List D)) (ρ : Env) : kFor t ks b (.ok xs ρ) = forL t ks b xs (wipeE ρ ks) := id rfl
@[simp] theorem kFor_rz (t : Tg) (ks : List Nat) (b : Es) (x : Exn) (ρ : Env) : kFor t ks b (.rz x ρ) = .rz x ρ := id rfl
def kCall (s : Df) (r : Res (List D)) : Res Sl := r.bind fun ds ρ => callR (s (ds.map .v)) ρ
@[simp] theorem kCall_ok (s : Df) (ds : (List D)) (ρ : Env) : kCall s (.ok ds ρ) = callR (s (ds.map .v)) ρ := id rfl
@[simp] theorem kCall_rz (s : Df) (x : Exn) (ρ : Env) : kCall s (.rz x ρ) = .rz x ρ := id rfl
def kIE  (r : Res D) : Res (List D) := r.bind fun d ρ => outL (itD d) ρ
@[simp] theorem kIE_ok  (d : D) (ρ : Env) : kIE  (.ok d ρ) = outL (itD d) ρ := id rfl
@[simp] theorem kIE_rz  (x : Exn) (ρ : Env) : kIE  (.rz x ρ) = .rz x ρ := id rfl
def kAnd (h : Ev) (r : Res D) : Res D := r.bind fun a ρ => (match a with | .bl true => h ρ | .bl false => .ok (.bl false) ρ | _ => .st)
@[simp] theorem kAnd_ok (h : Ev) (a : D) (ρ : Env) : kAnd h (.ok a ρ) = (match a with | .bl true => h ρ | .bl false => .ok (.bl false) ρ | _ => .st) := id rfl
@[simp] theorem kAnd_rz (h : Ev) (x : Exn) (ρ : Env) : kAnd h (.rz x ρ) = .rz x ρ := id rfl
def kOr (h : Ev) (r : Res D) : Res D := r.bind fun a ρ => (match a with | .bl true => .ok (.bl true) ρ | .bl false => h ρ | _ => .st)
@[simp] theorem kOr_ok (h : Ev) (a : D) (ρ : Env) : kOr h (.ok a ρ) = (match a with | .bl true => .ok (.bl true) ρ | .bl false => h ρ | _ => .st) := id rfl
@[simp] theorem kOr_rz (h : Ev) (x : Exn) (ρ : Env) : kOr h (.rz x ρ) = .rz x ρ := id rfl
def kIf (f : Ev) (h : Ev) (r : Res D) : Res D := r.bind fun a ρ => (match a with | .bl true => f ρ | .bl false => h ρ | _ => .st)
@[simp] theorem kIf_ok (f : Ev) (h : Ev) (a : D) (ρ : Env) : kIf f h (.ok a ρ) = (match a with | .bl true => f ρ | .bl false => h ρ | _ => .st) := id rfl
@[simp] theorem kIf_rz (f : Ev) (h : Ev) (x : Exn) (ρ : Env) : kIf f h (.rz x ρ) = .rz x ρ := id rfl
def kC4 (g2 : D → D → Option D) (b : D) (r : Res D) : Res D := r.bind fun c ρ => out (g2 b c) ρ
@[simp] theorem kC4_ok (g2 : D → D → Option D) (b : D) (c : D) (ρ : Env) : kC4 g2 b (.ok c ρ) = out (g2 b c) ρ := id rfl
@[simp] theorem kC4_rz (g2 : D → D → Option D) (b : D) (x : Exn) (ρ : Env) : kC4 g2 b (.rz x ρ) = .rz x ρ := id rfl
def kC3 (g2 : D → D → Option D) (b : D) (l : Ev) (r : Res D) : Res D := r.bind fun z ρ => (match z with | .bl true => kC4 g2 b (l ρ) | .bl false => .ok (.bl false) ρ | _ => .st)
@[simp] theorem kC3_ok (g2 : D → D → Option D) (b : D) (l : Ev) (z : D) (ρ : Env) : kC3 g2 b l (.ok z ρ) = (match z with | .bl true => kC4 g2 b (l ρ) | .bl false => .ok (.bl false) ρ | _ => .st) := id rfl
@[simp] theorem kC3_rz (g2 : D → D → Option D) (b : D) (l : Ev) (x : Exn) (ρ : Env) : kC3 g2 b l (.rz x ρ) = .rz x ρ := id rfl
def kC2 (g : D → D → Option D) (g2 : D → D → Option D) (a : D) (l : Ev) (r : Res D) : Res D := r.bind fun b ρ => kC3 g2 b l (out (g a b) ρ)
@[simp] theorem kC2_ok (g : D → D → Option D) (g2 : D → D → Option D) (a : D) (l : Ev) (b : D) (ρ : Env) : kC2 g g2 a l (.ok b ρ) = kC3 g2 b l (out (g a b) ρ) := id rfl
@[simp] theorem kC2_rz (g : D → D → Option D) (g2 : D → D → Option D) (a : D) (l : Ev) (x : Exn) (ρ : Env) : kC2 g g2 a l (.rz x ρ) = .rz x ρ := id rfl
def kC1 (g : D → D → Option D) (g2 : D → D → Option D) (h : Ev) (l : Ev) (r : Res D) : Res D := r.bind fun a ρ => kC2 g g2 a l (h ρ)
@[simp] theorem kC1_ok (g : D → D → Option D) (g2 : D → D → Option D) (h : Ev) (l : Ev) (a : D) (ρ : Env) : kC1 g g2 h l (.ok a ρ) = kC2 g g2 a l (h ρ) := id rfl
@[simp] theorem kC1_rz (g : D → D → Option D) (g2 : D → D → Option D) (h : Ev) (l : Ev) (x : Exn) (ρ : Env) : kC1 g g2 h l (.rz x ρ) = .rz x ρ := id rfl
def kMb (g : D → D → Option D) (s : List Nat) (r : Res D) : Res D := r.bind fun b ρ => out (g (.str s) b) ρ
@[simp] theorem kMb_ok (g : D → D → Option D) (s : List Nat) (b : D) (ρ : Env) : kMb g s (.ok b ρ) = out (g (.str s) b) ρ := id rfl
@[simp] theorem kMb_rz (g : D → D → Option D) (s : List Nat) (x : Exn) (ρ : Env) : kMb g s (.rz x ρ) = .rz x ρ := id rfl
def kM (g : D → D → Option D) (h : Ev) (r : Res D) : Res D := r.bind fun a ρ => (match a with | .str s => kMb g s (h ρ) | _ => .st)
@[simp] theorem kM_ok (g : D → D → Option D) (h : Ev) (a : D) (ρ : Env) : kM g h (.ok a ρ) = (match a with | .str s => kMb g s (h ρ) | _ => .st) := id rfl
@[simp] theorem kM_rz (g : D → D → Option D) (h : Ev) (x : Exn) (ρ : Env) : kM g h (.rz x ρ) = .rz x ρ := id rfl
def kPt  (r : Res D) : Res (Option Int) := r.bind fun a ρ => (match a with | .int i => .ok (some i) ρ | _ => .st)
@[simp] theorem kPt_ok  (a : D) (ρ : Env) : kPt  (.ok a ρ) = (match a with | .int i => .ok (some i) ρ | _ => .st) := id rfl
@[simp] theorem kPt_rz  (x : Exn) (ρ : Env) : kPt  (.rz x ρ) = .rz x ρ := id rfl
def kT3 (a : D) (l : Option Int) (r : Res (Option Int)) : Res D := r.bind fun h ρ => out (opCut a l h) ρ
@[simp] theorem kT3_ok (a : D) (l : Option Int) (h : (Option Int)) (ρ : Env) : kT3 a l (.ok h ρ) = out (opCut a l h) ρ := id rfl
@[simp] theorem kT3_rz (a : D) (l : Option Int) (x : Exn) (ρ : Env) : kT3 a l (.rz x ρ) = .rz x ρ := id rfl
def kT2 (a : D) (hi : Option Ev) (r : Res (Option Int)) : Res D := r.bind fun l ρ => kT3 a l (pt hi ρ)
@[simp] theorem kT2_ok (a : D) (hi : Option Ev) (l : (Option Int)) (ρ : Env) : kT2 a hi (.ok l ρ) = kT3 a l (pt hi ρ) := id rfl
@[simp] theorem kT2_rz (a : D) (hi : Option Ev) (x : Exn) (ρ : Env) : kT2 a hi (.rz x ρ) = .rz x ρ := id rfl
def kT1 (lo : Option Ev) (hi : Option Ev) (r : Res D) : Res D := r.bind fun a ρ => kT2 a hi (pt lo ρ)
@[simp] theorem kT1_ok (lo : Option Ev) (hi : Option Ev) (a : D) (ρ : Env) : kT1 lo hi (.ok a ρ) = kT2 a hi (pt lo ρ) := id rfl
@[simp] theorem kT1_rz (lo : Option Ev) (hi : Option Ev) (x : Exn) (ρ : Env) : kT1 lo hi (.rz x ρ) = .rz x ρ := id rfl
def kTup  (r : Res (List D)) : Res D := r.bind fun as ρ => (if as.length ≤ line then .ok (.tup as) ρ else .st)
@[simp] theorem kTup_ok  (as : (List D)) (ρ : Env) : kTup  (.ok as ρ) = (if as.length ≤ line then .ok (.tup as) ρ else .st) := id rfl
@[simp] theorem kTup_rz  (x : Exn) (ρ : Env) : kTup  (.rz x ρ) = .rz x ρ := id rfl
def kLst  (r : Res (List D)) : Res D := r.bind fun as ρ => (if as.length ≤ line then .ok (.lst as) ρ else .st)
@[simp] theorem kLst_ok  (as : (List D)) (ρ : Env) : kLst  (.ok as ρ) = (if as.length ≤ line then .ok (.lst as) ρ else .st) := id rfl
@[simp] theorem kLst_rz  (x : Exn) (ρ : Env) : kLst  (.rz x ρ) = .rz x ρ := id rfl
def kVal  (r : Res Sl) : Res D := r.bind fun q ρ => (match q with | .v d => .ok d ρ | .o d => .ok d ρ | _ => .st)
@[simp] theorem kVal_ok  (q : Sl) (ρ : Env) : kVal  (.ok q ρ) = (match q with | .v d => .ok d ρ | .o d => .ok d ρ | _ => .st) := id rfl
@[simp] theorem kVal_rz  (x : Exn) (ρ : Env) : kVal  (.rz x ρ) = .rz x ρ := id rfl
def kSIf (a : Es) (b : Es) (r : Res D) : Res Fl := r.bind fun d ρ => (match d with | .bl true => a ρ | .bl false => b ρ | _ => .st)
@[simp] theorem kSIf_ok (a : Es) (b : Es) (d : D) (ρ : Env) : kSIf a b (.ok d ρ) = (match d with | .bl true => a ρ | .bl false => b ρ | _ => .st) := id rfl
@[simp] theorem kSIf_rz (a : Es) (b : Es) (x : Exn) (ρ : Env) : kSIf a b (.rz x ρ) = .rz x ρ := id rfl
def kTg (t : Tg) (r : Res D) : Res Fl := r.bind fun d ρ => (match t.put d ρ with | some ρ => .ok .nx ρ | none => .st)
@[simp] theorem kTg_ok (t : Tg) (d : D) (ρ : Env) : kTg t (.ok d ρ) = (match t.put d ρ with | some ρ => .ok .nx ρ | none => .st) := id rfl
@[simp] theorem kTg_rz (t : Tg) (x : Exn) (ρ : Env) : kTg t (.rz x ρ) = .rz x ρ := id rfl
def kAug2 (i : Nat) (g : D → D → Option D) (a : D) (r : Res D) : Res Fl := r.bind fun b ρ => kSet i (out (g a b) ρ)
@[simp] theorem kAug2_ok (i : Nat) (g : D → D → Option D) (a : D) (b : D) (ρ : Env) : kAug2 i g a (.ok b ρ) = kSet i (out (g a b) ρ) := id rfl
@[simp] theorem kAug2_rz (i : Nat) (g : D → D → Option D) (a : D) (x : Exn) (ρ : Env) : kAug2 i g a (.rz x ρ) = .rz x ρ := id rfl
def kPar (i : Nat) (j : Nat) (r : Res (List D)) : Res Fl := r.bind fun ds ρ => (match ds with | [a, b] => .ok .nx ((ρ.set i (.v a)).set j (.v b)) | _ => .st)
@[simp] theorem kPar_ok (i : Nat) (j : Nat) (ds : (List D)) (ρ : Env) : kPar i j (.ok ds ρ) = (match ds with | [a, b] => .ok .nx ((ρ.set i (.v a)).set j (.v b)) | _ => .st) := id rfl
@[simp] theorem kPar_rz (i : Nat) (j : Nat) (x : Exn) (ρ : Env) : kPar i j (.rz x ρ) = .rz x ρ := id rfl
def kR1  (r : Res D) : Res (List D) := r.bind fun d ρ => (match d with | .int b => if inR b then .ok (rng 0 b) ρ else .st | _ => .st)
@[simp] theorem kR1_ok  (d : D) (ρ : Env) : kR1  (.ok d ρ) = (match d with | .int b => if inR b then .ok (rng 0 b) ρ else .st | _ => .st) := id rfl
@[simp] theorem kR1_rz  (x : Exn) (ρ : Env) : kR1  (.rz x ρ) = .rz x ρ := id rfl
def kR2b (a : D) (r : Res D) : Res (List D) := r.bind fun b ρ => (match a, b with | .int a, .int b => if inR a && inR b then .ok (rng a b) ρ else .st | _, _ => .st)
@[simp] theorem kR2b_ok (a : D) (b : D) (ρ : Env) : kR2b a (.ok b ρ) = (match a, b with | .int a, .int b => if inR a && inR b then .ok (rng a b) ρ else .st | _, _ => .st) := id rfl
@[simp] theorem kR2b_rz (a : D) (x : Exn) (ρ : Env) : kR2b a (.rz x ρ) = .rz x ρ := id rfl
def kR2 (h : Ev) (r : Res D) : Res (List D) := r.bind fun a ρ => kR2b a (h ρ)
@[simp] theorem kR2_ok (h : Ev) (a : D) (ρ : Env) : kR2 h (.ok a ρ) = kR2b a (h ρ) := id rfl
@[simp] theorem kR2_rz (h : Ev) (x : Exn) (ρ : Env) : kR2 h (.rz x ρ) = .rz x ρ := id rfl
def kRev  (r : Res D) : Res (List D) := r.bind fun a ρ => (match a with | .lst xs => .ok xs.reverse ρ | _ => .st)
@[simp] theorem kRev_ok  (a : D) (ρ : Env) : kRev  (.ok a ρ) = (match a with | .lst xs => .ok xs.reverse ρ | _ => .st) := id rfl
@[simp] theorem kRev_rz  (x : Exn) (ρ : Env) : kRev  (.rz x ρ) = .rz x ρ := id rfl
def kEnum  (r : Res D) : Res (List D) := r.bind fun a ρ => (match a with | .lst xs => .ok (enumL 0 xs) ρ | _ => .st)
@[simp] theorem kEnum_ok  (a : D) (ρ : Env) : kEnum  (.ok a ρ) = (match a with | .lst xs => .ok (enumL 0 xs) ρ | _ => .st) := id rfl
@[simp] theorem kEnum_rz  (x : Exn) (ρ : Env) : kEnum  (.rz x ρ) = .rz x ρ := id rfl
def kZipb (a : D) (r : Res D) : Res (List D) := r.bind fun b ρ => (match a, b with | .lst xs, .lst ys => .ok (List.zipWith (fun x y => .tup [x, y]) xs ys) ρ | _, _ => .st)
@[simp] theorem kZipb_ok (a : D) (b : D) (ρ : Env) : kZipb a (.ok b ρ) = (match a, b with | .lst xs, .lst ys => .ok (List.zipWith (fun x y => .tup [x, y]) xs ys) ρ | _, _ => .st) := id rfl
@[simp] theorem kZipb_rz (a : D) (x : Exn) (ρ : Env) : kZipb a (.rz x ρ) = .rz x ρ := id rfl
def kZip (h : Ev) (r : Res D) : Res (List D) := r.bind fun a ρ => kZipb a (h ρ)
@[simp] theorem kZip_ok (h : Ev) (a : D) (ρ : Env) : kZip h (.ok a ρ) = kZipb a (h ρ) := id rfl
@[simp] theorem kZip_rz (h : Ev) (x : Exn) (ρ : Env) : kZip h (.rz x ρ) = .rz x ρ := id rfl
def kChg (i : Nat) (f : D → D → Option D) (r : Res D) : Res Fl := r.bind fun d ρ => chg i (f d) ρ
@[simp] theorem kChg_ok (i : Nat) (f : D → D → Option D) (d : D) (ρ : Env) : kChg i f (.ok d ρ) = chg i (f d) ρ := id rfl
@[simp] theorem kChg_rz (i : Nat) (f : D → D → Option D) (x : Exn) (ρ : Env) : kChg i f (.rz x ρ) = .rz x ρ := id rfl
def kComp (ws : List Nat) (ρ1 : Env) (r : Res (List D)) : Res D := match r with
  | .ok ds ρ2 => .ok (.lst ds) (unwipe ρ1 ρ2 ws)
  | _ => .st
@[simp] theorem kComp_ok (ws : List Nat) (ρ1 ρ2 : Env) (ds : List D) : kComp ws ρ1 (.ok ds ρ2) = .ok (.lst ds) (unwipe ρ1 ρ2 ws) := id rfl
section
variable {f h l : Ev} {fo : Eo} {fs : Ea} {it : Ei} {a b : Es} {c : Ev} {g : D → Option D} {g2 h2 : D → D → Option D} {ρ : Env} {d : D} {i j n k : Nat} {s : Df} {x : Exn} {r : Sl} {as : Env} {t : Tg} {ks : List Nat} {lo hi : Option Ev}
@[simp] theorem sq_nx : sq (.ok .nx ρ) b = b ρ := id rfl
@[simp] theorem sq_brk : sq (.ok .brk ρ) b = .ok .brk ρ := id rfl
@[simp] theorem sq_cnt : sq (.ok .cnt ρ) b = .ok .cnt ρ := id rfl
@[simp] theorem sq_ret : sq (.ok (.ret r) ρ) b = .ok (.ret r) ρ := id rfl
@[simp] theorem sq_rz : sq (.rz x ρ) b = .rz x ρ := id rfl
@[simp] theorem callR_ok {ρ2 : Env} : callR (.ok r ρ2) ρ = .ok r ρ := id rfl
@[simp] theorem callR_rz {ρ2 : Env} : callR (.rz x ρ2) ρ = .rz x ρ := id rfl
@[simp] theorem runR_ret : runR as (.ok (.ret r) ρ) = .ok r (lent as ρ) := id rfl
@[simp] theorem runR_nx : runR as (.ok .nx ρ) = .ok (.v .non) (lent as ρ) := id rfl
@[simp] theorem runR_rz : runR as (.rz x ρ) = .rz x (lent as ρ) := id rfl
@[simp] theorem thawR_ok {ρ2 : Env} : thawR (.ok d ρ2) ρ = if d.flat then .ok d ρ else .st := id rfl
@[simp] theorem eC_ap : eC d ρ = .ok d ρ := id rfl
@[simp] theorem eDct0_ap : eDct0 ρ = .ok (.dct []) ρ := id rfl
@[simp] theorem eV_ap : eV i ρ = (match ρ[i]? with | some (.v d) => .ok d ρ | _ => .st) := id rfl
@[simp] theorem e1_ap : e1 g f ρ = k1 g (f ρ) := id rfl
@[simp] theorem e2_ap : e2 g2 f h ρ = k2 g2 h (f ρ) := id rfl
@[simp] theorem eM_ap : eM g2 f h ρ = kM g2 h (f ρ) := id rfl
@[simp] theorem aNil_ap : aNil ρ = .ok [] ρ := id rfl
@[simp] theorem aCons_ap : aCons f fs ρ = kC fs (f ρ) := id rfl
@[simp] theorem own_ap : own f ρ = kOwn (f ρ) := id rfl
@[simp] theorem eAnd_ap : eAnd f h ρ = kAnd h (f ρ) := id rfl
@[simp] theorem eOr_ap : eOr f h ρ = kOr h (f ρ) := id rfl
@[simp] theorem eIf_ap : eIf c f h ρ = kIf f h (c ρ) := id rfl
@[simp] theorem eChain_ap : eChain g2 h2 f h l ρ = kC1 g2 h2 h l (f ρ) := id rfl
@[simp] theorem pt_n : pt none ρ = .ok none ρ := id rfl
@[simp] theorem pt_s : pt (some f) ρ = kPt (f ρ) := id rfl
@[simp] theorem eCut_ap : eCut f lo hi ρ = kT1 lo hi (f ρ) := id rfl
@[simp] theorem eTup_ap : eTup fs ρ = kTup (fs ρ) := id rfl
@[simp] theorem eLst_ap : eLst fs ρ = kLst (fs ρ) := id rfl
@[simp] theorem val_ap : val fo ρ = kVal (fo ρ) := id rfl
@[simp] theorem sNx_ap : sNx ρ = .ok .nx ρ := id rfl
@[simp] theorem sBrk_ap : sBrk ρ = .ok .brk ρ := id rfl
@[simp] theorem sCnt_ap : sCnt ρ = .ok .cnt ρ := id rfl
@[simp] theorem sSq_ap : sSq a b ρ = sq (a ρ) b := id rfl
@[simp] theorem sSet_ap : sSet i f ρ = kSet i (f ρ) := id rfl
@[simp] theorem sOwn_ap : sOwn i fo ρ = kSetO i (fo ρ) := id rfl
@[simp] theorem sRet_ap : sRet f ρ = kRet (f ρ) := id rfl
@[simp] theorem sRetO_ap : sRetO fo ρ = kRetO (fo ρ) := id rfl
@[simp] theorem sDrop_ap : sDrop f ρ = kDrop (f ρ) := id rfl
@[simp] theorem sIf_ap : sIf c a b ρ = kSIf a b (c ρ) := id rfl
@[simp] theorem sTg_ap : sTg t f ρ = kTg t (f ρ) := id rfl
@[simp] theorem sAug_ap : sAug i g2 f ρ = (match ρ[i]? with | some (.v a) => kAug2 i g2 a (f ρ) | _ => .st) := id rfl
@[simp] theorem sPar_ap : sPar i j fs ρ = kPar i j (fs ρ) := id rfl
@[simp] theorem sRetN_ap : sRetN i ρ = (match ρ[i]? with | some (.v d) => .ok (.ret (.v d)) ρ | some (.o d) => .ok (.ret (.o d)) (ρ.set i .un) | _ => .st) := id rfl
@[simp] theorem sFor_ap : sFor t ks it b ρ = kFor t ks b (it ρ) := id rfl
@[simp] theorem eCall_ap : eCall s fs ρ = kCall s (fs ρ) := id rfl
theorem run_ap (hl : as.length = n) : run n k a as = runR as (a (as ++ List.replicate k .un)) := by rw [run, if_pos hl]; rfl
@[simp] theorem eThaw_ap : eThaw f ρ = thawR (f (ρ.map Sl.frz)) ρ := id rfl
@[simp] theorem eFrz_ap : eFrz i f ρ = f (frz1 ρ i) := id rfl
@[simp] theorem iE_ap : iE f ρ = kIE (f ρ) := id rfl
@[simp] theorem iR1_ap : iR1 f ρ = kR1 (f ρ) := id rfl
@[simp] theorem iR2_ap : iR2 f h ρ = kR2 h (f ρ) := id rfl
@[simp] theorem iRev_ap : iRev f ρ = kRev (f ρ) := id rfl
@[simp] theorem iEnum_ap : iEnum f ρ = kEnum (f ρ) := id rfl
@[simp] theorem iZip_ap : iZip f h ρ = kZip h (f ρ) := id rfl
@[simp] theorem put_n {d : D} : (Tg.n i).put d ρ = some (ρ.set i (.v d)) := id rfl
@[simp] theorem wipe_nil : wipeE ρ [] = ρ := id rfl
@[simp] theorem wipe_cons : wipeE ρ (i :: ks) = (wipeE ρ ks).set i .un := id rfl
end
theorem Res.bind_eq {α β : Type} {r : Res α} {a : α} {ρ : Env} (h : r = .ok a ρ) (f : α → Env → Res β) : r.bind f = f a ρ := by rw [h]; rfl
section
variable {g : Tg} {ks : List Nat} {b : Es} {x : D} {r : List D} {ρ ρ1 ρ2 : Env}
theorem forL_nx (h1 : g.put x ρ = some ρ1) (h2 : b ρ1 = .ok .nx ρ2) : forL g ks b (x :: r) ρ = forL g ks b r (wipeE ρ2 ks) := by
  rw [forL]; simp only [h1, h2]
theorem forL_cnt (h1 : g.put x ρ = some ρ1) (h2 : b ρ1 = .ok .cnt ρ2) : forL g ks b (x :: r) ρ = forL g ks b r (wipeE ρ2 ks) := by
  rw [forL]; simp only [h1, h2]
theorem forL_brk (h1 : g.put x ρ = some ρ1) (h2 : b ρ1 = .ok .brk ρ2) : forL g ks b (x :: r) ρ = .ok .nx (wipeE ρ2 ks) := by
  rw [forL]; simp only [h1, h2]
theorem forL_ret {s : Sl} (h1 : g.put x ρ = some ρ1) (h2 : b ρ1 = .ok (.ret s) ρ2) : forL g ks b (x :: r) ρ = .ok (.ret s) ρ2 := by
  rw [forL]; simp only [h1, h2]
theorem forL_nil : forL g ks b [] ρ = .ok .nx ρ := rfl
end
theorem forL_inv {g : Tg} {ks : List Nat} {b : Es} (I : Nat → Env → Prop) : ∀ (xs : List D) (i : Nat) (ρ : Env), I i ρ → (∀ j x ρ, xs[j]? = some x → I (i + j) ρ → ∃ ρ1 ρ2, g.put x ρ = some ρ1 ∧ (b ρ1 = .ok .nx ρ2 ∨ b ρ1 = .ok .cnt ρ2) ∧ I (i + j + 1) (wipeE ρ2 ks)) → ∃ ρ', forL g ks b xs ρ = .ok .nx ρ' ∧ I (i + xs.length) ρ'
  | [], i, ρ, h, _ => ⟨ρ, rfl, h⟩
  | x :: r, i, ρ, h, hs => by
    obtain ⟨ρ1, ρ2, h1, h2, h4⟩ := hs 0 x ρ rfl h
    obtain ⟨ρ', h5, h6⟩ := forL_inv I r (i + 1) (wipeE ρ2 ks) h4 fun j y ρ hy hI => by
      have := hs (j + 1) y ρ (by simpa using hy) (by rwa [show i + (j + 1) = i + 1 + j by omega])
      rwa [show i + (j + 1) + 1 = i + 1 + j + 1 by omega] at this
    refine ⟨ρ', ?_, by rw [List.length_cons, show i + (r.length + 1) = i + 1 + r.length by omega]; exact h6⟩
    rcases h2 with h2 | h2
    · rw [forL_nx h1 h2]; exact h5
    · rw [forL_cnt h1 h2]; exact h5
/-- a loop that goes through, or returns r at the first x that fails -/
theorem forL_all {g : Tg} {ks : List Nat} {b : Es} {ρ : Env} (p : D → Bool) (r : Sl) : ∀ (xs : List D), (∀ x ∈ xs, ∃ ρ1 ρ2, g.put x ρ = some ρ1 ∧ (p x = true → b ρ1 = .ok .nx ρ2 ∧ wipeE ρ2 ks = ρ) ∧ (p x = false → b ρ1 = .ok (.ret r) ρ2)) →
    (xs.all p = true → forL g ks b xs ρ = .ok .nx ρ) ∧ (xs.all p = false → ∃ ρ', forL g ks b xs ρ = .ok (.ret r) ρ')
  | [], _ => ⟨fun _ => rfl, fun h => by cases h⟩
  | x :: xs, h => by
    obtain ⟨ρ1, ρ2, h1, h2, h3⟩ := h x List.mem_cons_self
    have ih := forL_all p r xs fun y hy => h y (List.mem_cons_of_mem _ hy)
    rw [List.all_cons]
    cases e : p x with
    | true =>
      obtain ⟨h4, h5⟩ := h2 e
      rw [forL_nx h1 h4, h5]
      exact ih
    | false => exact ⟨fun z => (by cases z), fun _ => ⟨ρ2, forL_ret h1 (h3 e)⟩⟩
/-- a loop as a fold -/
theorem forL_fold {σ : Type} {g : Tg} {ks : List Nat} {b : Es} (st : σ → Env) (f : σ → D → σ) : ∀ (xs : List D) (s : σ), (∀ (s : σ) x, x ∈ xs → ∃ ρ1 ρ2, g.put x (st s) = some ρ1 ∧ b ρ1 = .ok .nx ρ2 ∧ wipeE ρ2 ks = st (f s x)) → forL g ks b xs (st s) = .ok .nx (st (xs.foldl f s))
  | [], s, _ => rfl
  | x :: r, s, h => by
    obtain ⟨ρ1, ρ2, h1, h2, h3⟩ := h s x List.mem_cons_self
    rw [forL_nx h1 h2, h3]
    exact forL_fold st f r (f s x) fun s y hy => h s y (List.mem_cons_of_mem _ hy)
theorem big_ge {n : Nat} (h : n < 2 ^ 64) : n < big := Nat.lt_of_lt_of_le h (by unfold big; exact Nat.pow_le_pow_right (by decide) (by decide))
theorem mulOk_of {i j : Int} (hi : i.natAbs < 2 ^ 64) (hj : j.natAbs < 2 ^ 64) : mulOk i j = true := by
  unfold mulOk
  rw [decide_eq_true (big_ge hi), decide_eq_true (big_ge hj)]; rfl
theorem opMul_int {i j : Int} (hi : i.natAbs < 2 ^ 64) (hj : j.natAbs < 2 ^ 64) : opMul (.int i) (.int j) = some (.int (i * j)) := by
  rw [opMul, if_pos (mulOk_of hi hj)]
theorem opMod_int {i j : Int} (hj : 0 < j) : opMod (.int i) (.int j) = some (.int (i % j)) := by rw [opMod, if_pos hj]
theorem opDiv_int {i j : Int} (hj : 0 < j) (h : j.natAbs < 2 ^ 64) : opDiv (.int i) (.int j) = some (.int (i / j)) := by
  rw [opDiv, if_pos ⟨hj, Nat.lt_of_lt_of_le h (Nat.pow_le_pow_right (by decide) (by decide))⟩]
theorem opAdd_str {s t : List Nat} (h : s.length + t.length ≤ line) : opAdd (.str s) (.str t) = some (.str (s ++ t)) := by rw [opAdd, if_pos h]
theorem opAdd_int {i j : Int} : opAdd (.int i) (.int j) = some (.int (i + j)) := rfl
theorem opCut_str {s : List Nat} {lo hi : Option Int} (h : s.length ≤ line) : opCut (.str s) lo hi = some (.str (cut s lo hi)) := by rw [opCut, if_pos h]
theorem opLen_str {s : List Nat} (h : s.length ≤ line) : opLen (.str s) = some (.int s.length) := by rw [opLen, if_pos h]
theorem at_of {α : Type} {xs : List α} {i : Int} (h0 : 0 ≤ i) : at? xs i = xs[i.toNat]? := by
  unfold at? ixN
  rw [if_pos h0]
  by_cases h : i < xs.length
  · rw [if_pos h]; rfl
  · rw [if_neg h]
    show none = _
    rw [List.getElem?_eq_none (by omega)]
section
variable {i j : Int} {a b : Bool} {xs ys : List D} {s t : List Nat} {d : D}
@[simp] theorem opLen_scr : opLen (.scr xs) = some (.int xs.length) := id rfl
@[simp] theorem opLen_lst : opLen (.lst xs) = some (.int xs.length) := id rfl
@[simp] theorem opLen_tup : opLen (.tup xs) = some (.int xs.length) := id rfl
@[simp] theorem opAdd_i : opAdd (.int i) (.int j) = some (.int (i + j)) := id rfl
@[simp] theorem opIAdd_i : opIAdd (.int i) (.int j) = some (.int (i + j)) := id rfl
@[simp] theorem opSub_i : opSub (.int i) (.int j) = some (.int (i - j)) := id rfl
@[simp] theorem opNeg_i : opNeg (.int i) = some (.int (-i)) := id rfl
@[simp] theorem opNot_b : opNot (.bl a) = some (.bl (!a)) := id rfl
@[simp] theorem opLt_i : opLt (.int i) (.int j) = some (.bl (decide (i < j))) := id rfl
@[simp] theorem opLe_i : opLe (.int i) (.int j) = some (.bl (decide (i ≤ j))) := id rfl
@[simp] theorem opGt_i : opGt (.int i) (.int j) = some (.bl (decide (j < i))) := id rfl
@[simp] theorem opGe_i : opGe (.int i) (.int j) = some (.bl (decide (j ≤ i))) := id rfl
@[simp] theorem opEq_i : opEq (.int i) (.int j) = some (.bl (decide (i = j))) := by
  simp [opEq, D.lv, D.eqv]; by_cases h : i = j <;> simp [h]
@[simp] theorem opNe_i : opNe (.int i) (.int j) = some (.bl (decide (i ≠ j))) := by
  simp [opNe, D.lv, D.eqv]; by_cases h : i = j <;> simp [h]
@[simp] theorem opEq_b : opEq (.bl a) (.bl b) = some (.bl (a == b)) := by simp [opEq, D.lv, D.eqv]
@[simp] theorem opEq_nn : opEq .non .non = some (.bl true) := by simp [opEq, D.lv, D.eqv]
@[simp] theorem opMod_i (h : 0 < j) : opMod (.int i) (.int j) = some (.int (i % j)) := opMod_int h
@[simp] theorem itD_scr : itD (.scr xs) = some xs := id rfl
@[simp] theorem itD_lst : itD (.lst xs) = some xs := id rfl
@[simp] theorem itD_tup : itD (.tup xs) = some xs := id rfl
@[simp] theorem itD_str : itD (.str s) = some (s.map fun c => .str [c]) := id rfl
@[simp] theorem opIs_nn : opIs d .non = opIsN d := id rfl
@[simp] theorem opIsNot_nn : opIsNot d .non = opNotN d := id rfl
@[simp] theorem opCut_l {lo hi : Option Int} : opCut (.lst xs) lo hi = some (.lst (cut xs lo hi)) := id rfl
@[simp] theorem opCut_sc {lo hi : Option Int} : opCut (.scr xs) lo hi = some (.lst (cut xs lo hi)) := id rfl
@[simp] theorem opCut_t {lo hi : Option Int} : opCut (.tup xs) lo hi = some (.tup (cut xs lo hi)) := id rfl
end
theorem opIx_lst {xs : List D} {i : Int} (h0 : 0 ≤ i) : opIx (.lst xs) (.int i) = xs[i.toNat]? := by rw [opIx, at_of h0]
theorem opIx_scr {ns : List Int} {k : Nat} (h : k < ns.length) : opIx (.scr (ns.map D.int)) (.int (k : Int)) = some (.int (ns[k]?.getD 0)) := by
  rw [opIx, at_of (by omega), List.getElem?_map, Int.toNat_natCast, List.getElem?_eq_getElem h]; rfl
theorem opIx_str {s : List Nat} {i : Int} (hl : s.length ≤ line) (h0 : 0 ≤ i) (h : i < s.length) : ∃ c, c ∈ s ∧ opIx (.str s) (.int i) = some (.str [c]) := by
  refine ⟨s[i.toNat]'(by omega), List.getElem_mem _, ?_⟩
  rw [opIx, if_pos hl, at_of h0, List.getElem?_eq_getElem (by omega)]; rfl
theorem rng_get {a b : Int} {j : Nat} {x : D} (h : (rng a b)[j]? = some x) : x = .int (a + j) ∧ a + j < b := by
  unfold rng at h
  rw [List.getElem?_map] at h
  by_cases hj : j < (b - a).toNat
  · rw [List.getElem?_range hj] at h
    exact ⟨(Option.some.inj h).symm, by omega⟩
  · rw [List.getElem?_eq_none (by rw [List.length_range]; omega)] at h
    cases h
theorem rng_mem {a b : Int} {x : D} (h : x ∈ rng a b) : ∃ i : Int, x = .int i ∧ a ≤ i ∧ i < b := by
  obtain ⟨j, hj⟩ := List.getElem?_of_mem h
  obtain ⟨h1, h2⟩ := rng_get hj
  exact ⟨a + j, h1, by omega, h2⟩
theorem clip_nat (n d m : Nat) : clip n d (some (m : Int)) = min m n := by
  rw [clip, if_neg (by omega)]; rfl
theorem cut_take {α : Type} (xs : List α) (m : Nat) : cut xs none (some (m : Int)) = xs.take m := by
  unfold cut
  rw [clip_nat]
  show (List.drop 0 xs).take (min m xs.length - 0) = _
  rw [List.drop_zero, Nat.sub_zero]
  by_cases h : m ≤ xs.length
  · rw [Nat.min_eq_left h]
  · rw [Nat.min_eq_right (by omega), List.take_of_length_le (Nat.le_refl _), List.take_of_length_le (by omega)]
theorem cut_drop {α : Type} (xs : List α) (m : Nat) : cut xs (some (m : Int)) none = xs.drop m := by
  unfold cut
  rw [clip_nat]
  show (List.drop (min m xs.length) xs).take (xs.length - min m xs.length) = _
  rw [List.take_of_length_le (by rw [List.length_drop]; omega)]
  by_cases h : m ≤ xs.length
  · rw [Nat.min_eq_left h]
  · rw [List.drop_of_length_le (by omega), List.drop_of_length_le (by omega)]
theorem cut_mid {α : Type} (xs : List α) (m n : Nat) : cut xs (some (m : Int)) (some (n : Int)) = (xs.take n).drop m := by
  unfold cut
  rw [clip_nat, clip_nat, List.drop_take]
  by_cases h : m ≤ xs.length
  · rw [Nat.min_eq_left h]
    by_cases h2 : n ≤ xs.length
    · rw [Nat.min_eq_left h2]
    · rw [Nat.min_eq_right (by omega), List.take_of_length_le (by rw [List.length_drop]; omega), List.take_of_length_le (by rw [List.length_drop]; omega)]
  · rw [List.drop_of_length_le (by omega), List.drop_of_length_le (by omega)]; simp
theorem inR_of {b : Int} (h : -1000000000 ≤ b) (h2 : b ≤ 1000000000) : inR b = true := by
  unfold inR
  rw [decide_eq_true (by omega), decide_eq_true (by omega)]; rfl
theorem rng_len (a b : Int) : (rng a b).length = (b - a).toNat := by unfold rng; simp
/-- _law_mixed -/
def mix (c k : Int) : Int := ((c % 2147483647 * 69621 + 104659 * k * k + 7877) % 2147483647) * ((c % 2147483647 * 69621 + 104659 * k * k + 7877) % 2147483647) % 2147483587
theorem mix_nn (c k : Int) : 0 ≤ mix c k := Int.emod_nonneg _ (by decide)
theorem mix_lt (c k : Int) : mix c k < 2147483587 := Int.emod_lt_of_pos _ (by decide)
/-- _law_cell -/
def cell (ns : List Int) (k : Nat) : Int := ns[k]?.getD 0
end NV
namespace NV
/-! comprehensions -/
theorem unwipe_agree (a : Env) {ρ ρ' : Env} (hl : ρ.length = ρ'.length) : ∀ (ws : List Nat), (unwipe a ρ ws).length = (unwipe a ρ' ws).length ∧ ∀ j, (j ∈ ws ∨ ρ[j]? = ρ'[j]?) → (unwipe a ρ ws)[j]? = (unwipe a ρ' ws)[j]?
  | [] => ⟨hl, fun j h => h.resolve_left (by simp)⟩
  | i :: r => by
    obtain ⟨h1, h2⟩ := unwipe_agree a hl r
    refine ⟨by rw [unwipe, unwipe, List.length_set, List.length_set, h1], fun j h => ?_⟩
    rw [unwipe, unwipe, List.getElem?_set, List.getElem?_set, h1]
    by_cases e : i = j
    · rw [if_pos e, if_pos e]
    · rw [if_neg e, if_neg e]
      refine h2 j (h.imp (fun z => ?_) id)
      rcases List.mem_cons.mp z with z | z
      · exact absurd z.symm e
      · exact z
theorem wipe_len (ρ : Env) : ∀ ws : List Nat, (wipeE ρ ws).length = ρ.length
  | [] => rfl
  | i :: r => by rw [wipeE, List.length_set, wipe_len ρ r]
theorem wipe_out {ρ : Env} {j : Nat} : ∀ {ws : List Nat}, j ∉ ws → (wipeE ρ ws)[j]? = ρ[j]?
  | [], _ => rfl
  | i :: r, h => by
    rw [wipeE, List.getElem?_set_ne (fun e => h (by rw [e]; exact List.mem_cons_self))]
    exact wipe_out fun z => h (List.mem_cons_of_mem _ z)
theorem unwipe_of {a ρ ρ' : Env} {ws : List Nat} (h : wipeE ρ ws = wipeE ρ' ws) : unwipe a ρ ws = unwipe a (wipeE ρ' ws) ws := by
  have hl : ρ.length = (wipeE ρ' ws).length := by rw [← h, wipe_len]
  refine List.ext_getElem? fun j => (unwipe_agree a hl ws).2 j ?_
  by_cases m : j ∈ ws
  · exact .inl m
  · exact .inr (by rw [← h, wipe_out m])
theorem compL_map {g : Tg} {ws : List Nat} {f : Ev} {ρ0 : Env} (F : D → D) : ∀ (xs acc : List D) (ρ : Env), wipeE ρ ws = ρ0 → (∀ x ∈ xs, ∃ ρ1, g.put x ρ0 = some ρ1 ∧ f ρ1 = .ok (F x) ρ1 ∧ wipeE ρ1 ws = ρ0) → acc.length + xs.length ≤ line → ∃ ρ', compL g ws none f xs acc ρ = .ok (acc ++ xs.map F) ρ' ∧ wipeE ρ' ws = ρ0
  | [], acc, ρ, h, _, _ => ⟨ρ, by rw [compL, List.map_nil, List.append_nil], h⟩
  | x :: r, acc, ρ, h, hf, hl => by
    obtain ⟨ρ1, h1, h2, h3⟩ := hf x List.mem_cons_self
    rw [List.length_cons] at hl
    obtain ⟨ρ', h4, h5⟩ := compL_map F r (acc ++ [F x]) ρ1 h3 (fun y hy => hf y (List.mem_cons_of_mem _ hy)) (by rw [List.length_append, List.length_singleton]; omega)
    refine ⟨ρ', ?_, h5⟩
    rw [compL, h]
    simp only [h1, h2, Res.bind_ok]
    rw [if_pos (by omega), h4, List.append_assoc]
    rfl
theorem eComp_map {g : Tg} {ws : List Nat} {it : Ei} {f : Ev} {ρ : Env} (F : D → D) (xs : List D) (hit : it ρ = .ok xs ρ) (h : ∀ x ∈ xs, ∃ ρ1, g.put x (wipeE ρ ws) = some ρ1 ∧ f ρ1 = .ok (F x) ρ1 ∧ wipeE ρ1 ws = wipeE ρ ws) (hl : xs.length ≤ line) :
    eComp g ws it none f ρ = .ok (.lst (xs.map F)) (unwipe ρ (wipeE ρ ws) ws) := by
  obtain ⟨ρ', h1, h2⟩ := compL_map F xs [] ρ rfl h (by rw [List.length_nil]; omega)
  unfold eComp
  rw [hit, Res.bind_ok, h1]
  rw [List.nil_append]
  show Res.ok (D.lst (xs.map F)) (unwipe ρ ρ' ws) = _
  rw [unwipe_of h2]
section
variable {f : Ev} {fo : Eo} {ρ : Env} {i : Nat} {d : D} {xs : List D} {ρ0 : Env} {ws ws' : List Nat}
@[simp] theorem isO_ap : isO ρ i = (match ρ[i]? with | some (.o (.lst _)) => true | some (.io _ (.lst _)) => true | _ => false) := id rfl
@[simp] theorem oFrz_ap : oFrz i fo ρ = fo (frz1 ρ i) := id rfl
@[simp] theorem oComp_ap {g : Tg} {it : Ei} {cnd : Option Ev} : oComp g ws it cnd f ρ = kOwn (eComp g ws it cnd f ρ) := id rfl
@[simp] theorem put_t {is : List Nat} {ys : List D} : (Tg.t is).put (.tup ys) ρ = setAll is ys ρ := id rfl
@[simp] theorem sAppend_ap : sAppend i f ρ = if isO ρ i then kChg i hAppend (f ρ) else .st := id rfl
@[simp] theorem sExtend_ap : sExtend i f ρ = if isO ρ i then kChg i hExtend (f ρ) else .st := id rfl
theorem chg_ap (h : ρ[i]? = some (Sl.o (D.lst xs))) (hl : xs.length < line) : chg i (hAppend d) ρ = Res.ok Fl.nx (ρ.set i (Sl.o (D.lst (xs ++ [d])))) := by
  unfold chg
  rw [h]
  simp only [hAppend, if_pos hl]
@[simp] theorem unwipe_nil : unwipe ρ0 ρ [] = ρ := id rfl
@[simp] theorem unwipe_cons : unwipe ρ0 ρ (i :: ws) = (unwipe ρ0 ρ ws).set i (match ρ0[i]? with | some (.v d) => .v d | _ => .un) := id rfl
end
theorem rng_get0 {b : Int} {j : Nat} {x : D} (h : (rng 0 b)[j]? = some x) : x = .int (j : Int) ∧ (j : Int) < b := by
  obtain ⟨h1, h2⟩ := rng_get h
  rw [Int.zero_add] at h1 h2
  exact ⟨h1, h2⟩
/-! words over the first m letters -/
def IsW (m : Nat) (w : List Nat) : Prop := ∀ c ∈ w, 97 ≤ c ∧ c < 97 + m
theorem IsW.ok {m : Nat} {w : List Nat} (h : IsW m w) (hm : m ≤ 4) : w.all (fun c => decide (c < 1114112)) = true := by
  rw [List.all_eq_true]
  intro c hc
  have := h c hc
  rw [decide_eq_true_eq]
  omega
theorem IsW.app {m : Nat} {w v : List Nat} (h : IsW m w) (g : IsW m v) : IsW m (w ++ v) := fun c hc => by
  rcases List.mem_append.mp hc with q | q
  · exact h c q
  · exact g c q
theorem IsW.nil {m : Nat} : IsW m [] := fun c hc => by cases hc
/-- 'abcd'[i] -/
theorem abcd_ix {m : Nat} {i : Int} (h0 : 0 ≤ i) (h : i < m) (hm : m ≤ 4) : ∃ c : Nat, 97 ≤ c ∧ c < 97 + m ∧ opIx (.str [97, 98, 99, 100]) (.int i) = some (.str [c]) := by
  refine ⟨97 + i.toNat, by omega, by omega, ?_⟩
  have h2 : i = 0 ∨ i = 1 ∨ i = 2 ∨ i = 3 := by omega
  rcases h2 with rfl | rfl | rfl | rfl <;> simp [opIx, line, at?, ixN]
/-- 'abcd'.index(c) -/
theorem abcd_no {m c : Nat} (h0 : 97 ≤ c) (h : c < 97 + m) (hm : m ≤ 4) : opIndex (.str [97, 98, 99, 100]) (.str [c]) = some (.int ((c - 97 : Nat) : Int)) := by
  have h2 : c = 97 ∨ c = 98 ∨ c = 99 ∨ c = 100 := by omega
  rcases h2 with rfl | rfl | rfl | rfl <;> simp [opIndex, line, List.idxOf, List.findIdx, List.findIdx.go]
theorem cell_lt (ns : List Int) {k : Nat} (h : k < ns.length) : opIx (.scr (ns.map D.int)) (.int (k : Int)) = some (.int (cell ns k)) := opIx_scr h
theorem strs_map (ws : List (List Nat)) : strsD (ws.map D.str) = some ws := by
  induction ws with
  | nil => rfl
  | cons w r ih => rw [List.map_cons, strsD, ih]; rfl
theorem ints_map (ns : List Int) : intsD (ns.map D.int) = some ns := by
  induction ns with
  | nil => rfl
  | cons w r ih => rw [List.map_cons, intsD, ih]; rfl
theorem joinL_nil : ∀ ws : List (List Nat), joinL [] ws = ws.flatten
  | [] => rfl
  | [w] => by rw [joinL, List.flatten_cons, List.flatten_nil, List.append_nil]
  | w :: v :: r => by rw [joinL, joinL_nil (v :: r), List.append_nil, List.flatten_cons (l := w)]
theorem join_ok (ws : List (List Nat)) (h : (ws.map List.length).sum ≤ line) : opJoin (.str []) (.lst (ws.map D.str)) = some (.str ws.flatten) := by
  rw [opJoin, strs_map]
  show (if _ then _ else _) = _
  rw [List.length_nil, Nat.mul_zero, Nat.add_zero, if_pos h, joinL_nil]
theorem sum_ok (ns : List Int) : opSum (.lst (ns.map D.int)) = some (.int ns.sum) := by rw [opSum, ints_map]; rfl
theorem sumI (ws : List (List Nat)) : (ws.map fun w => (w.length : Int)).sum = ((ws.map List.length).sum : Nat) := by
  induction ws with
  | nil => rfl
  | cons w r ih => rw [List.map_cons, List.sum_cons, ih, List.map_cons, List.sum_cons]; omega
theorem le_sum {ws : List (List Nat)} {v : List Nat} (h : v ∈ ws) : v.length ≤ (ws.map List.length).sum := by
  induction ws with
  | nil => cases h
  | cons w r ih =>
    rw [List.map_cons, List.sum_cons]
    rcases List.mem_cons.mp h with rfl | h
    · omega
    · have := ih h; omega
theorem sum_le {ws : List (List Nat)} {b : Nat} (h : ∀ w ∈ ws, w.length ≤ b) : (ws.map List.length).sum ≤ ws.length * b := by
  induction ws with
  | nil => simp
  | cons w r ih =>
    rw [List.map_cons, List.sum_cons, List.length_cons]
    have h1 := h w List.mem_cons_self
    have h2 := ih fun v hv => h v (List.mem_cons_of_mem _ hv)
    rw [Nat.add_mul]; omega
/-- what the rule makes of a word -/
def imgs (ws : List (List Nat)) (w : List Nat) : List (List Nat) := w.map fun c => ws.getD (c - 97) []
def img (ws : List (List Nat)) (w : List Nat) : List Nat := (imgs ws w).flatten
theorem ix_rule {ws : List (List Nat)} {m c : Nat} (hl : ws.length = m) (h0 : 97 ≤ c) (h : c < 97 + m) : opIx (.tup (ws.map D.str)) (.int ((c - 97 : Nat) : Int)) = some (.str (ws.getD (c - 97) [])) := by
  rw [opIx, at_of (by omega), Int.toNat_natCast, List.getElem?_map, List.getElem?_eq_getElem (by omega), List.getD_eq_getElem?_getD, List.getElem?_eq_getElem (by omega)]; rfl
structure IsR (m b : Nat) (ws : List (List Nat)) : Prop where
  len : ws.length = m
  ok : ∀ w ∈ ws, IsW m w ∧ 1 ≤ w.length ∧ w.length ≤ b
theorem IsR.get {m b : Nat} {ws : List (List Nat)} (h : IsR m b ws) {i : Nat} (hi : i < m) : IsW m (ws.getD i []) ∧ 1 ≤ (ws.getD i []).length ∧ (ws.getD i []).length ≤ b := by
  rw [List.getD_eq_getElem?_getD, List.getElem?_eq_getElem (by rw [h.len]; exact hi)]
  exact h.ok _ (List.getElem_mem _)
theorem imgs_len {m b : Nat} {ws : List (List Nat)} (h : IsR m b ws) {w : List Nat} (hw : IsW m w) : ∀ v ∈ imgs ws w, IsW m v ∧ v.length ≤ b := fun v hv => by
  obtain ⟨c, hc, rfl⟩ := List.mem_map.mp hv
  have := hw c hc
  obtain ⟨h1, _, h2⟩ := h.get (i := c - 97) (by omega)
  exact ⟨h1, h2⟩
theorem img_w {m b : Nat} {ws : List (List Nat)} (h : IsR m b ws) {w : List Nat} (hw : IsW m w) : IsW m (img ws w) := fun c hc => by
  obtain ⟨v, hv, hc⟩ := List.mem_flatten.mp hc
  exact (imgs_len h hw v hv).1 c hc
theorem imgs_sum {m b : Nat} {ws : List (List Nat)} (h : IsR m b ws) {w : List Nat} (hw : IsW m w) : ((imgs ws w).map List.length).sum ≤ w.length * b := by
  have := sum_le (ws := imgs ws w) (b := b) fun v hv => (imgs_len h hw v hv).2
  rwa [imgs, List.length_map] at this
/-- numbers in a row: the script or a list -/
structure IsSc (sc : D) (ns : List Int) : Prop where
  len : opLen sc = some (.int ns.length)
  ix : ∀ k, k < ns.length → opIx sc (.int (k : Int)) = some (.int (cell ns k))
theorem sc_scr (ns : List Int) : IsSc (.scr (ns.map D.int)) ns := ⟨by rw [opLen_scr, List.length_map], fun k h => cell_lt ns h⟩
theorem sc_lst (ns : List Int) : IsSc (.lst (ns.map D.int)) ns := ⟨by rw [opLen_lst, List.length_map], fun k h => by
  rw [opIx, at_of (by omega), List.getElem?_map, Int.toNat_natCast, List.getElem?_eq_getElem h, cell, List.getElem?_eq_getElem h]; rfl⟩
/-- a rule behind a rule -/
def comp (fs ls : List (List Nat)) : List (List Nat) := fs.map (img ls)
theorem img_app (ls : List (List Nat)) (v w : List Nat) : img ls (v ++ w) = img ls v ++ img ls w := by
  unfold img imgs
  rw [List.map_append, List.flatten_append]
theorem img_flat (ls : List (List Nat)) : ∀ vs : List (List Nat), img ls vs.flatten = (vs.map (img ls)).flatten
  | [] => rfl
  | v :: r => by rw [List.flatten_cons, img_app, img_flat ls r, List.map_cons, List.flatten_cons]
theorem img_comp {m b : Nat} {fs ls : List (List Nat)} (hf : IsR m b fs) {w : List Nat} (hw : IsW m w) : img (comp fs ls) w = img ls (img fs w) := by
  unfold img
  rw [show (imgs ls (imgs fs w).flatten).flatten = img ls (imgs fs w).flatten from rfl, img_flat]
  congr 1
  unfold imgs
  rw [List.map_map]
  refine List.map_congr_left fun c hc => ?_
  have := hw c hc
  have hi : c - 97 < fs.length := by rw [hf.len]; omega
  unfold comp
  rw [List.getD_eq_getElem?_getD, List.getElem?_map, List.getElem?_eq_getElem hi]
  show img ls fs[c - 97] = img ls (fs.getD (c - 97) [])
  rw [List.getD_eq_getElem?_getD, List.getElem?_eq_getElem hi]
  rfl
theorem sum_ge {ws : List (List Nat)} (h : ∀ w ∈ ws, 1 ≤ w.length) : ws.length ≤ (ws.map List.length).sum := by
  induction ws with
  | nil => simp
  | cons w r ih =>
    rw [List.map_cons, List.sum_cons, List.length_cons]
    have h1 := h w List.mem_cons_self
    have h2 := ih fun v hv => h v (List.mem_cons_of_mem _ hv)
    omega
theorem comp_ok {m a b : Nat} {fs ls : List (List Nat)} (hf : IsR m a fs) (hl : IsR m b ls) : IsR m (a * b) (comp fs ls) := by
  refine ⟨by rw [comp, List.length_map, hf.len], fun v hv => ?_⟩
  obtain ⟨w, hw, rfl⟩ := List.mem_map.mp hv
  obtain ⟨h1, h2, h3⟩ := hf.ok w hw
  refine ⟨img_w hl h1, ?_, ?_⟩
  · have := sum_ge (ws := imgs ls w) fun v hv => by
      obtain ⟨c, hc, rfl⟩ := List.mem_map.mp hv
      have := h1 c hc
      exact (hl.get (i := c - 97) (by omega)).2.1
    rw [imgs, List.length_map] at this
    rw [img, List.length_flatten, imgs]
    omega
  · have := imgs_sum hl h1
    rw [img, List.length_flatten]
    exact Nat.le_trans this (Nat.mul_le_mul_right b h3)
theorem img_len {m b : Nat} {ws : List (List Nat)} (hr : IsR m b ws) {w : List Nat} (hw : IsW m w) : (img ws w).length ≤ w.length * b := by
  have := imgs_sum hr hw
  rwa [img, List.length_flatten]
end NV

set_option Elab.async false
set_option linter.all false
set_option maxRecDepth 100000
/-! M2: words for Sem2. -/
namespace NV
def kEnum2 (r : Res D) : Res (List D) := r.bind fun a ρ => (match itL a with | some xs => .ok (enumL 0 xs) ρ | none => .st)
@[simp] theorem kEnum2_ok (a : D) (ρ : Env) : kEnum2 (.ok a ρ) = (match itL a with | some xs => .ok (enumL 0 xs) ρ | none => .st) := id rfl
def kRev2 (r : Res D) : Res (List D) := r.bind fun a ρ => (match itR a with | some xs => .ok xs ρ | none => .st)
@[simp] theorem kRev2_ok (a : D) (ρ : Env) : kRev2 (.ok a ρ) = (match itR a with | some xs => .ok xs ρ | none => .st) := id rfl
section
variable {f : Ev} {ρ : Env} {xs : List D} {s : List Nat}
@[simp] theorem iEnum2_ap : iEnum2 f ρ = kEnum2 (f ρ) := id rfl
@[simp] theorem iRev2_ap : iRev2 f ρ = kRev2 (f ρ) := id rfl
@[simp] theorem itL_lst : itL (.lst xs) = some xs := id rfl
@[simp] theorem itR_lst : itR (.lst xs) = some xs.reverse := id rfl
theorem itR_str (h : s.length ≤ line) : itR (.str s) = some (s.map fun c => .str [c]).reverse := by rw [itR, if_pos h]
@[simp] theorem itL_str : itL (.str s) = some (s.map fun c => .str [c]) := id rfl
end
@[simp] theorem eListO_ap {i : Nat} {ρ : Env} : eListO i ρ = (match held ρ i with | some (.lst xs) => .ok (.lst xs) ρ | _ => .st) := id rfl
def kR2wb (a : D) (r : Res D) : Res (List D) := r.bind fun b ρ => (match a, b with | .int a, .int b => .ok (rng a b) ρ | _, _ => .st)
@[simp] theorem kR2wb_ok (a : D) (b : D) (ρ : Env) : kR2wb a (.ok b ρ) = (match a, b with | .int a, .int b => .ok (rng a b) ρ | _, _ => .st) := id rfl
def kR2w (h : Ev) (r : Res D) : Res (List D) := r.bind fun a ρ => kR2wb a (h ρ)
@[simp] theorem kR2w_ok (h : Ev) (a : D) (ρ : Env) : kR2w h (.ok a ρ) = kR2wb a (h ρ) := id rfl
@[simp] theorem iR2w_ap {f h : Ev} {ρ : Env} : iR2w f h ρ = kR2w h (f ρ) := id rfl
@[simp] theorem opInt_i {i : Int} : opInt (.int i) = some (.int i) := id rfl
@[simp] theorem opInt_b {b : Bool} : opInt (.bl b) = some (.int (if b then 1 else 0)) := id rfl
def dRes (r : Res Sl) (ρ : Env) (i : Nat) (mk : D → Sl) : Res Sl := match r with
  | .ok r (.io _ e :: _) => .ok r (ρ.set i (mk e))
  | .rz x (.io _ e :: _) => .rz x (ρ.set i (mk e))
  | _ => .st
def dCall (s : Df) (i : Nat) (ds : List D) (ρ : Env) : Option Sl → Res Sl
  | some (.o d) => dRes (s (.io 0 d :: ds.map .v)) ρ i .o
  | some (.io k d) => dRes (s (.io 0 d :: ds.map .v)) ρ i (.io k)
  | _ => .st
def kCallD (s : Df) (i : Nat) (r : Res (List D)) : Res Sl := r.bind fun ds ρ => dCall s i ds ρ ρ[i]?
@[simp] theorem kCallD_ok {s : Df} {i : Nat} {ds : List D} {ρ : Env} : kCallD s i (.ok ds ρ) = dCall s i ds ρ ρ[i]? := id rfl
@[simp] theorem dRes_ok {r : Sl} {k i : Nat} {e : D} {t ρ : Env} {mk : D → Sl} : dRes (.ok r (.io k e :: t)) ρ i mk = .ok r (ρ.set i (mk e)) := id rfl
@[simp] theorem dRes_rz {x : Exn} {k i : Nat} {e : D} {t ρ : Env} {mk : D → Sl} : dRes (.rz x (.io k e :: t)) ρ i mk = .rz x (ρ.set i (mk e)) := id rfl
@[simp] theorem dCall_o {s : Df} {i : Nat} {ds : List D} {ρ : Env} {d : D} : dCall s i ds ρ (some (.o d)) = dRes (s (.io 0 d :: ds.map .v)) ρ i .o := id rfl
@[simp] theorem dCall_io {s : Df} {i k : Nat} {ds : List D} {ρ : Env} {d : D} : dCall s i ds ρ (some (.io k d)) = dRes (s (.io 0 d :: ds.map .v)) ρ i (.io k) := id rfl
def kHeld : Option Sl → Res Sl → Res Sl
  | some (.o _), r => r
  | some (.io _ _), r => r
  | _, _ => .st
@[simp] theorem kHeld_o {d : D} {r : Res Sl} : kHeld (some (.o d)) r = r := id rfl
@[simp] theorem kHeld_io {k : Nat} {d : D} {r : Res Sl} : kHeld (some (.io k d)) r = r := id rfl
@[simp] theorem eCallD_ap {s : Df} {i : Nat} {fs : Ea} {ρ : Env} : eCallD s i fs ρ = kHeld ρ[i]? (kCallD s i (fs ρ)) := by
  unfold eCallD held
  cases e : ρ[i]? with
  | none => rfl
  | some s => cases s <;> rfl
/-! what a turn comes to, without its slots written out -/
structure Nx (ks : List Nat) (r : Res Fl) (P : Env → Prop) : Prop where
  eq : ∃ ρ, (r = .ok .nx ρ ∨ r = .ok .cnt ρ) ∧ P (wipeE ρ ks)
structure Rt (r : Res Fl) (s : Sl) : Prop where
  eq : ∃ ρ, r = .ok (.ret s) ρ
def Go (g : Tg) (b : Es) (x : D) (ρ : Env) : Res Fl := match g.put x ρ with
  | some ρ1 => b ρ1
  | none => .st
def GoE (g : Tg) (f : Ev) (x : D) (ρ : Env) : Res D := match g.put x ρ with
  | some ρ1 => f ρ1
  | none => .st
structure Vl (ws : List Nat) (r : Res D) (d : D) (ρ0 : Env) : Prop where
  eq : ∃ ρ, r = .ok d ρ ∧ wipeE ρ ws = ρ0
section
variable {ks ws : List Nat} {ρ ρ0 : Env} {P : Env → Prop} {s s' : Sl} {i : Nat} {is : List Nat} {b : Es} {f : Ev} {x d d' : D} {xs : List D}
@[simp] theorem Nx_nx : Nx ks (.ok .nx ρ) P ↔ P (wipeE ρ ks) := ⟨fun ⟨_, h, k⟩ => by rcases h with h | h <;> cases h; exact k, fun h => ⟨ρ, .inl rfl, h⟩⟩
@[simp] theorem Nx_cnt : Nx ks (.ok .cnt ρ) P ↔ P (wipeE ρ ks) := ⟨fun ⟨_, h, k⟩ => by rcases h with h | h <;> cases h; exact k, fun h => ⟨ρ, .inr rfl, h⟩⟩
@[simp] theorem Rt_ret : Rt (.ok (.ret s') ρ) s ↔ s' = s := ⟨fun ⟨_, h⟩ => by cases h; rfl, fun h => ⟨ρ, by rw [h]⟩⟩
@[simp] theorem Go_n : Go (.n i) b x ρ = b (ρ.set i (.v x)) := id rfl
@[simp] theorem GoE_n : GoE (.n i) f x ρ = f (ρ.set i (.v x)) := id rfl
@[simp] theorem Vl_ok : Vl ws (.ok d' ρ) d ρ0 ↔ (d' = d ∧ wipeE ρ ws = ρ0) := ⟨fun ⟨_, h, k⟩ => by cases h; exact ⟨rfl, k⟩, fun ⟨h, k⟩ => ⟨ρ, by rw [h], k⟩⟩
def goA (b : Es) (o : Option Env) : Res Fl := match o with
  | some ρ => b ρ
  | none => .st
def goAE (b : Ev) (o : Option Env) : Res D := match o with
  | some ρ => b ρ
  | none => .st
@[simp] theorem goA_s : goA b (some ρ) = b ρ := id rfl
@[simp] theorem goAE_s : goAE f (some ρ) = f ρ := id rfl
@[simp] theorem Go_t : Go (.t is) b (.tup xs) ρ = goA b (setAll is xs ρ) := id rfl
@[simp] theorem GoE_t : GoE (.t is) f (.tup xs) ρ = goAE f (setAll is xs ρ) := id rfl
@[simp] theorem Go_tl : Go (.t is) b (.lst xs) ρ = goA b (setAll is xs ρ) := id rfl
@[simp] theorem GoE_tl : GoE (.t is) f (.lst xs) ρ = goAE f (setAll is xs ρ) := id rfl
@[simp] theorem setAll_nil : setAll [] [] ρ = some ρ := id rfl
@[simp] theorem setAll_cons : setAll (i :: is) (x :: xs) ρ = setAll is xs (ρ.set i (.v x)) := id rfl
end
@[simp] theorem sWhile_ap {ks : List Nat} {c : Ev} {b : Es} {ρ : Env} : sWhile ks c b ρ = whileL ks c b fuel (wipeE ρ ks) := id rfl
theorem Go.of {g : Tg} {b : Es} {x : D} {ρ : Env} {r : Res Fl} (h : Go g b x ρ = r) (hr : r ≠ .st) : ∃ ρ1, g.put x ρ = some ρ1 ∧ b ρ1 = r := by
  unfold Go at h
  split at h
  · exact ⟨_, by assumption, h⟩
  · exact absurd h.symm hr
/-- a loop; q tells at which x it returns, and what -/
theorem forL_go {g : Tg} {ks : List Nat} {b : Es} (I : Nat → Env → Prop) (q : Nat → D → Option Sl) : ∀ (xs : List D) (i : Nat) (ρ : Env), I i ρ →
    (∀ j x ρ, xs[j]? = some x → I (i + j) ρ → (q (i + j) x = none → Nx ks (Go g b x ρ) (I (i + j + 1))) ∧ (∀ r, q (i + j) x = some r → Rt (Go g b x ρ) r)) →
    ((∀ j x, xs[j]? = some x → q (i + j) x = none) → ∃ ρ', forL g ks b xs ρ = .ok .nx ρ' ∧ I (i + xs.length) ρ') ∧ (∀ j x r, xs[j]? = some x → (∀ j' x', j' < j → xs[j']? = some x' → q (i + j') x' = none) → q (i + j) x = some r → ∃ ρ', forL g ks b xs ρ = .ok (.ret r) ρ')
  | [], i, ρ, h, _ => ⟨fun _ => ⟨ρ, rfl, h⟩, fun j x r h => by cases h⟩
  | x :: r, i, ρ, h, hs => by
    obtain ⟨h1, h2⟩ := hs 0 x ρ rfl h
    rw [Nat.add_zero] at h1 h2
    have step : q i x = none → ∃ ρ2, forL g ks b (x :: r) ρ = forL g ks b r (wipeE ρ2 ks) ∧ I (i + 1) (wipeE ρ2 ks) := fun e => by
      obtain ⟨ρ2, h3, h4⟩ := (h1 e).eq
      refine ⟨ρ2, ?_, h4⟩
      rcases h3 with h3 | h3
      · obtain ⟨ρ1, h5, h6⟩ := Go.of h3 (by simp)
        exact forL_nx h5 h6
      · obtain ⟨ρ1, h5, h6⟩ := Go.of h3 (by simp)
        exact forL_cnt h5 h6
    have ih := fun (ρ2 : Env) (hI : I (i + 1) ρ2) => forL_go (g := g) (ks := ks) (b := b) I q r (i + 1) ρ2 hI fun j y ρ hy hJ => by
      have := hs (j + 1) y ρ (by simpa using hy) (by rwa [show i + (j + 1) = i + 1 + j by omega])
      rwa [show i + (j + 1) = i + 1 + j by omega] at this
    constructor
    · intro hq
      obtain ⟨ρ2, e1, e2⟩ := step (hq 0 x rfl)
      rw [e1, List.length_cons, show i + (r.length + 1) = i + 1 + r.length by omega]
      exact (ih _ e2).1 fun j y hy => by
        have := hq (j + 1) y (by simpa using hy)
        rwa [show i + (j + 1) = i + 1 + j by omega] at this
    · intro j y s hy hb hq
      match j with
      | 0 =>
        obtain rfl : x = y := Option.some.inj hy
        obtain ⟨ρ2, h3⟩ := (h2 s hq).eq
        obtain ⟨ρ1, h5, h6⟩ := Go.of h3 (by simp)
        exact ⟨ρ2, forL_ret h5 h6⟩
      | j + 1 =>
        obtain ⟨ρ2, e1, e2⟩ := step (hb 0 x (by omega) rfl)
        rw [e1]
        refine (ih _ e2).2 j y s (by simpa using hy) (fun j' y' hj hy' => ?_) (by rwa [show i + 1 + j = i + (j + 1) by omega])
        have := hb (j' + 1) y' (by omega) (by simpa using hy')
        rwa [show i + (j' + 1) = i + 1 + j' by omega] at this
/-- a loop whose slots are known at each turn -/
theorem forL_at {g : Tg} {ks : List Nat} {b : Es} (st : Nat → Env) (xs : List D) (h : ∀ j x, xs[j]? = some x → Nx ks (Go g b x (st j)) (· = st (j + 1))) : forL g ks b xs (st 0) = .ok .nx (st xs.length) := by
  obtain ⟨ρ', h1, h2⟩ := (forL_go (g := g) (ks := ks) (b := b) (fun i ρ => ρ = st i) (fun _ _ => none) xs 0 (st 0) rfl fun j x ρ hx hI => ⟨fun _ => by
    rw [hI, Nat.zero_add]; exact h j x hx, fun r z => by cases z⟩).1 fun _ _ _ => rfl
  rw [h1, h2, Nat.zero_add]
/-- .. of which some turns return: findSome? tells which -/
theorem forL_some {g : Tg} {ks : List Nat} {b : Es} (st : Nat → Env) (q : D → Option Sl) (xs : List D) (h : ∀ j x, xs[j]? = some x → (q x = none → Nx ks (Go g b x (st j)) (· = st (j + 1))) ∧ (∀ r, q x = some r → Rt (Go g b x (st j)) r)) :
    (xs.findSome? q = none → forL g ks b xs (st 0) = .ok .nx (st xs.length)) ∧ (∀ r, xs.findSome? q = some r → ∃ ρ', forL g ks b xs (st 0) = .ok (.ret r) ρ') := by
  suffices ∀ (xs : List D) (i : Nat), (∀ j x, xs[j]? = some x → (q x = none → Nx ks (Go g b x (st (i + j))) (· = st (i + j + 1))) ∧ (∀ r, q x = some r → Rt (Go g b x (st (i + j))) r)) →
      (xs.findSome? q = none → forL g ks b xs (st i) = .ok .nx (st (i + xs.length))) ∧ (∀ r, xs.findSome? q = some r → ∃ ρ', forL g ks b xs (st i) = .ok (.ret r) ρ') by
    have := this xs 0 fun j x hx => by rw [Nat.zero_add]; exact h j x hx
    rwa [Nat.zero_add] at this
  intro xs
  induction xs with
  | nil => intro i _; exact ⟨fun _ => rfl, fun r h => by cases h⟩
  | cons x r ih =>
    intro i hs
    obtain ⟨h1, h2⟩ := hs 0 x rfl
    rw [Nat.add_zero] at h1 h2
    rw [List.findSome?_cons]
    cases e : q x with
    | some s =>
      obtain ⟨ρ2, h3⟩ := (h2 s e).eq
      obtain ⟨ρ1, h5, h6⟩ := Go.of h3 (by simp)
      exact ⟨fun z => (by cases z), fun t z => (by cases z; exact ⟨ρ2, forL_ret h5 h6⟩)⟩
    | none =>
      obtain ⟨ρ2, h3, h4⟩ := (h1 e).eq
      have el : forL g ks b (x :: r) (st i) = forL g ks b r (st (i + 1)) := by
        rcases h3 with h3 | h3
        · obtain ⟨ρ1, h5, h6⟩ := Go.of h3 (by simp)
          rw [forL_nx h5 h6, h4]
        · obtain ⟨ρ1, h5, h6⟩ := Go.of h3 (by simp)
          rw [forL_cnt h5 h6, h4]
      have := ih (i + 1) fun j y hy => by
        have := hs (j + 1) y (by simpa using hy)
        rwa [show i + (j + 1) = i + 1 + j by omega] at this
      rw [el, List.length_cons, show i + (r.length + 1) = i + 1 + r.length by omega]
      exact this
theorem eComp_go {g : Tg} {ws : List Nat} {it : Ei} {f : Ev} {ρ : Env} (F : D → D) (xs : List D) (hit : it ρ = .ok xs ρ) (h : ∀ x ∈ xs, Vl ws (GoE g f x (wipeE ρ ws)) (F x) (wipeE ρ ws)) (hl : xs.length ≤ line) :
    eComp g ws it none f ρ = .ok (.lst (xs.map F)) (unwipe ρ (wipeE ρ ws) ws) := by
  suffices ∀ (ys acc : List D) (ρ1 : Env), (∀ x ∈ ys, Vl ws (GoE g f x (wipeE ρ ws)) (F x) (wipeE ρ ws)) → wipeE ρ1 ws = wipeE ρ ws → acc.length + ys.length ≤ line → ∃ ρ', compL g ws none f ys acc ρ1 = .ok (acc ++ ys.map F) ρ' ∧ wipeE ρ' ws = wipeE ρ ws by
    obtain ⟨ρ', h1, h2⟩ := this xs [] ρ h rfl (by rw [List.length_nil]; omega)
    unfold eComp
    rw [hit, Res.bind_ok, h1]
    rw [List.nil_append]
    show Res.ok (D.lst (xs.map F)) (unwipe ρ ρ' ws) = _
    rw [unwipe_of h2]
  intro ys
  induction ys with
  | nil => intro acc ρ1 _ h2 _; exact ⟨ρ1, by rw [compL, List.map_nil, List.append_nil], h2⟩
  | cons x r ih =>
    intro acc ρ1 h1 h2 h3
    have hx := h1 x List.mem_cons_self
    rw [List.length_cons] at h3
    obtain ⟨ρ4, hx1, hx2⟩ := hx
    unfold GoE at hx1
    cases e : g.put x (wipeE ρ ws) with
    | none => rw [e] at hx1; cases hx1
    | some ρ3 =>
      rw [e] at hx1
      have e2 : f ρ3 = .ok (F x) ρ4 := hx1
      obtain ⟨ρ', h5, h6⟩ := ih (acc ++ [F x]) ρ4 (fun y hy => h1 y (List.mem_cons_of_mem _ hy)) hx2 (by rw [List.length_append, List.length_singleton]; omega)
      refine ⟨ρ', ?_, h6⟩
      rw [compL, h2]
      simp only [e, e2, Res.bind_ok]
      rw [if_pos (by omega), h5, List.append_assoc]
      rfl
theorem whileL_at {ks : List Nat} {c : Ev} {b : Es} (st : Nat → Env) (n : Nat) (hc : ∀ j, j < n → c (st j) = .ok (.bl true) (st j)) (hb : ∀ j, j < n → Nx ks (b (st j)) (· = st (j + 1))) (hd : c (st n) = .ok (.bl false) (st n)) (hf : n < 1000000) : whileL ks c b fuel (st 0) = .ok .nx (st n) := by
  suffices ∀ (k f i : Nat), i + k = n → k < f → whileL ks c b f (st i) = .ok .nx (st n) from this n fuel 0 (by omega) hf
  intro k
  induction k with
  | zero =>
    intro f i hi hk
    obtain rfl : i = n := by omega
    match f, hk with
    | f + 1, _ => rw [whileL, hd]; rfl
  | succ k ih =>
    intro f i hi hk
    match f, hk with
    | f + 1, hk =>
      rw [whileL, hc i (by omega)]
      obtain ⟨ρ, h, e⟩ := hb i (by omega)
      have := ih f (i + 1) (by omega) (by omega)
      rw [← e] at this
      rcases h with h | h
      · simp only [Res.bind_ok, h]; exact this
      · simp only [Res.bind_ok, h]; exact this
theorem opIx_last (xs : List D) (x : D) : opIx (.lst (xs ++ [x])) (.int (-1)) = some x := by
  rw [opIx, at?, ixN, if_neg (by decide), if_pos (by rw [List.length_append, List.length_singleton]; omega)]
  have e : ((-1 : Int) + ((xs ++ [x]).length : Nat)).toNat = xs.length := by rw [List.length_append, List.length_singleton]; omega
  rw [e]
  simp
theorem eComp_if {g : Tg} {ws : List Nat} {it : Ei} {c f : Ev} {ρ : Env} (p : D → Bool) (F : D → D) (xs : List D) (hit : it ρ = .ok xs ρ) (h : ∀ x ∈ xs, Vl ws (GoE g c x (wipeE ρ ws)) (.bl (p x)) (wipeE ρ ws) ∧ (p x = true → Vl ws (GoE g (eIf c f (eC .non)) x (wipeE ρ ws)) (F x) (wipeE ρ ws))) (hl : xs.length ≤ line) :
    eComp g ws it (some c) f ρ = .ok (.lst ((xs.filter p).map F)) (unwipe ρ (wipeE ρ ws) ws) := by
  suffices ∀ (ys acc : List D) (ρ1 : Env), (∀ x ∈ ys, Vl ws (GoE g c x (wipeE ρ ws)) (.bl (p x)) (wipeE ρ ws) ∧ (p x = true → Vl ws (GoE g (eIf c f (eC .non)) x (wipeE ρ ws)) (F x) (wipeE ρ ws))) → wipeE ρ1 ws = wipeE ρ ws → acc.length + ys.length ≤ line → ∃ ρ', compL g ws (some c) f ys acc ρ1 = .ok (acc ++ (ys.filter p).map F) ρ' ∧ wipeE ρ' ws = wipeE ρ ws by
    obtain ⟨ρ', h1, h2⟩ := this xs [] ρ h rfl (by rw [List.length_nil]; omega)
    unfold eComp
    rw [hit, Res.bind_ok, h1]
    rw [List.nil_append]
    show Res.ok (D.lst ((xs.filter p).map F)) (unwipe ρ ρ' ws) = _
    rw [unwipe_of h2]
  intro ys
  induction ys with
  | nil => intro acc ρ1 _ h2 _; exact ⟨ρ1, by rw [compL, List.filter_nil, List.map_nil, List.append_nil], h2⟩
  | cons x r ih =>
    intro acc ρ1 h1 h2 h3
    obtain ⟨hx, hf⟩ := h1 x List.mem_cons_self
    rw [List.length_cons] at h3
    obtain ⟨ρ4, hx1, hx2⟩ := hx
    unfold GoE at hx1
    cases e : g.put x (wipeE ρ ws) with
    | none => rw [e] at hx1; cases hx1
    | some ρ3 =>
      rw [e] at hx1
      have e2 : c ρ3 = .ok (.bl (p x)) ρ4 := hx1
      cases hp : p x with
      | false =>
        rw [hp] at e2
        obtain ⟨ρ', h5, h6⟩ := ih acc ρ4 (fun y hy => h1 y (List.mem_cons_of_mem _ hy)) hx2 (by omega)
        refine ⟨ρ', ?_, h6⟩
        rw [compL, h2, List.filter_cons, hp]
        simp only [e, e2, Res.bind_ok]
        exact h5
      | true =>
        obtain ⟨ρ5, hy1, hy2⟩ := hf hp
        rw [hp] at e2
        unfold GoE at hy1
        rw [e] at hy1
        have e3 : f ρ4 = .ok (F x) ρ5 := by
          have : eIf c f (eC .non) ρ3 = .ok (F x) ρ5 := hy1
          unfold eIf at this
          rw [e2] at this
          exact this
        obtain ⟨ρ', h5, h6⟩ := ih (acc ++ [F x]) ρ5 (fun y hy => h1 y (List.mem_cons_of_mem _ hy)) hy2 (by rw [List.length_append, List.length_singleton]; omega)
        refine ⟨ρ', ?_, h6⟩
        rw [compL, h2, List.filter_cons, hp]
        simp only [e, e2, e3, Res.bind_ok]
        rw [if_pos (by omega), h5, List.append_assoc]
        rfl
/-- a comprehension that changes slots: st tells them at each turn -/
theorem eComp_st {g : Tg} {ws : List Nat} {it : Ei} {f : Ev} {ρ ρ0 : Env} (st : Nat → Env) (F : Nat → D) (xs : List D) (hit : it ρ = .ok xs ρ0) (h0 : wipeE ρ0 ws = st 0) (hw : ∀ j, wipeE (st j) ws = st j) (h : ∀ j x, xs[j]? = some x → Vl ws (GoE g f x (st j)) (F j) (st (j + 1))) (hl : xs.length ≤ line) :
    eComp g ws it none f ρ = .ok (.lst ((List.range xs.length).map F)) (unwipe ρ0 (st xs.length) ws) := by
  suffices ∀ (ys acc : List D) (i : Nat) (ρ1 : Env), (∀ j x, ys[j]? = some x → Vl ws (GoE g f x (st (i + j))) (F (i + j)) (st (i + j + 1))) → wipeE ρ1 ws = st i → acc.length + ys.length ≤ line → ∃ ρ', compL g ws none f ys acc ρ1 = .ok (acc ++ (List.range ys.length).map (fun j => F (i + j))) ρ' ∧ wipeE ρ' ws = st (i + ys.length) by
    obtain ⟨ρ', h1, h2⟩ := this xs [] 0 ρ0 (fun j x hx => by rw [Nat.zero_add]; exact h j x hx) h0 (by rw [List.length_nil]; omega)
    unfold eComp
    rw [hit, Res.bind_ok, h1]
    rw [List.nil_append]
    show Res.ok (D.lst _) (unwipe ρ0 ρ' ws) = _
    rw [Nat.zero_add] at h2
    rw [unwipe_of (h2.trans (hw _).symm), hw]
    congr 2
    exact List.map_congr_left fun j _ => by rw [Nat.zero_add]
  intro ys
  induction ys with
  | nil => intro acc i ρ1 _ h2 _; exact ⟨ρ1, by rw [compL]; simp, h2⟩
  | cons x r ih =>
    intro acc i ρ1 h1 h2 h3
    obtain ⟨ρ4, hx1, hx2⟩ := h1 0 x rfl
    rw [Nat.add_zero] at hx1 hx2
    rw [List.length_cons] at h3
    unfold GoE at hx1
    cases e : g.put x (st i) with
    | none => rw [e] at hx1; cases hx1
    | some ρ3 =>
      rw [e] at hx1
      have e2 : f ρ3 = .ok (F i) ρ4 := hx1
      obtain ⟨ρ', h5, h6⟩ := ih (acc ++ [F i]) (i + 1) ρ4 (fun j y hy => by
        have := h1 (j + 1) y (by simpa using hy)
        rwa [show i + (j + 1) = i + 1 + j by omega] at this) hx2 (by rw [List.length_append, List.length_singleton]; omega)
      refine ⟨ρ', ?_, by rw [h6, List.length_cons, show i + 1 + r.length = i + (r.length + 1) by omega]⟩
      rw [compL, h2]
      simp only [e, e2, Res.bind_ok]
      rw [if_pos (by omega), h5, List.append_assoc, List.length_cons, List.range_succ_eq_map, List.map_cons, List.map_map]
      congr 2
      rw [Nat.add_zero]
      show [F i] ++ _ = F i :: _
      rw [List.singleton_append]
      congr 1
      exact List.map_congr_left fun j _ => by show F (i + 1 + j) = F (i + (j + 1)); rw [show i + 1 + j = i + (j + 1) by omega]
end NV

set_option Elab.async false
set_option linter.all false
set_option maxRecDepth 100000
/-! k06_images_refused: what the defs of the law compute, in plain data. -/
namespace NV.K06
open NV
def c_LETTERS : D := .str [97, 98, 99, 100]
def c_MOST_IMAGE : D := .int 20000
def c_MOST_WORD : D := .int 100
/- law_mixed(law_cell_here, law_k): slots 0=law_cell_here 1=law_k 2=law_number -/
def g_law_mixed : Es := (sSq (sSet 2 (e2 opMod (e2 opAdd (e2 opAdd (e2 opMul (e2 opMod (eV 0) (eC (.int 2147483647))) (eC (.int 69621))) (e2 opMul (e2 opMul (eC (.int 104659)) (eV 1)) (eV 1))) (eC (.int 7877))) (eC (.int 2147483647))))
  (sRet (e2 opMod (e2 opMul (eV 2) (eV 2)) (eC (.int 2147483587)))))
def s_law_mixed : Df := run 2 1 g_law_mixed
/- law_cell(law_script, law_k): slots 0=law_script 1=law_k -/
def g_law_cell : Es := (sSq (sIf (e2 opLt (eV 1) (e1 opLen (eV 0)))
  (sRet (e2 opIx (eV 0) (eV 1))) sNx)
  (sRet (eC (.int 0))))
def s_law_cell : Df := run 2 0 g_law_cell
/- law_word(law_number, law_many, law_size_here): slots 0=law_number 1=law_many 2=law_size_here 3=law_word_here 4=law_k -/
def b_law_word_1 : Es := (sSq (sSet 0 (e2 opMod (e2 opMul (e2 opAdd (e2 opAdd (eV 0) (eV 4)) (eC (.int 3))) (eC (.int 48271))) (eC (.int 2147483647))))
  (sSet 3 (e2 opAdd (eV 3) (e2 opIx (eC (.str [97, 98, 99, 100])) (e2 opMod (e2 opDiv (eV 0) (eC (.int 64))) (eV 1))))))
def g_law_word : Es := (sSq (sSet 3 (eC (.str [])))
  (sSq (sFor (.n 4) [4] (iR1 (eV 2)) b_law_word_1)
  (sRet (eV 3))))
def s_law_word : Df := run 3 2 g_law_word
/- law_others(law_error): slots 0=law_error 1=law_some -/
def g_law_others : Es := (sSq (sSet 1 (eLst (aCons (e1 (opIsX [7] 2) (eV 0)) (aCons (e1 (opIsX [7] 3) (eV 0)) (aCons (e1 (opIsX [7] 4) (eV 0)) aNil)))))
  (sSq (sSet 1 (e2 opAdd (eV 1) (eLst (aCons (e1 (opIsX [7] 5) (eV 0)) (aCons (e1 (opIsX [7] 6) (eV 0)) (aCons (e1 (opIsX [7] 1) (eV 0)) aNil))))))
  (sRet (e2 opIn (eC (.bl true)) (eV 1)))))
def s_law_others : Df := run 1 1 g_law_others
/- law_refused(law_kept, law_bound): slots 0=law_kept 1=law_bound -/
def g_law_refused : Es := (sSq (sIf (eOr (e1 opNot (e1 (opIsX [7] 7) (eV 0))) (eOr (e1 opNot (e1 (opIsX [7] 8) (eV 0))) (val (eCall s_law_others (aCons (eV 0) aNil)))))
  (sRet (eC (.bl false))) sNx)
  (sRet (eAnd (e1 (opIsI 1) (e1 (opMost [7]) (eV 0))) (eAnd (e1 opNot (e1 (opIsI 2) (e1 (opMost [7]) (eV 0)))) (e2 opEq (e1 (opMost [7]) (eV 0)) (eV 1))))))
def s_law_refused : Df := run 2 0 g_law_refused
/- law_due(law_told_here, law_size_here, law_bound): slots 0=law_told_here 1=law_size_here 2=law_bound -/
def g_law_due : Es := (sSq (sIf (e2 opGt (eV 1) (eV 2))
  (sRet (val (eCall s_law_refused (aCons (e2 opIx (eV 0) (eC (.int 1))) (aCons (eV 2) aNil))))) sNx)
  (sRet (eAnd (e1 (opIsI 0) (e2 opIx (eV 0) (eC (.int 0)))) (eAnd (e2 opEq (e1 opLen (e2 opIx (eV 0) (eC (.int 0)))) (eV 1)) (e2 opIs (e2 opIx (eV 0) (eC (.int 1))) (eC .non))))))
def s_law_due : Df := run 3 0 g_law_due
/- number_of(letter): slots 0=letter -/
def g_number_of : Es := (sRet (eM opIndex (eC c_LETTERS) (eV 0)))
def s_number_of : Df := run 1 0 g_number_of
/- image_within(rule, word, most): slots 0=rule 1=word 2=most 3=parts 4=sign 5=part -/
def x_image_within_1 : Ev := (e2 opIx (eV 0) (val (eCall s_number_of (aCons (eV 4) aNil))))
def g_image_within : Es := (sSq (sSet 3 (eComp (.n 4) [4] (iE (eV 1)) none x_image_within_1))
  (sSq (sIf (e2 opGt (e1 opSum (eComp (.n 5) [5] (iE (eV 3)) none (e1 opLen (eV 5)))) (eV 2))
  (sRaise 7 (aCons (eV 2) aNil)) sNx)
  (sRet (eM opJoin (eC (.str [])) (eV 3)))))
def s_image_within : Df := run 3 3 g_image_within
/- image(rule, word): slots 0=rule 1=word -/
def g_image : Es := (sRet (val (eCall s_image_within (aCons (eV 0) (aCons (eV 1) (aCons (eC c_MOST_IMAGE) aNil))))))
def s_image : Df := run 2 0 g_image
/- turned(rule, word, times): slots 0=rule 1=word 2=times 3=turn -/
def b_turned_1 : Es := (sSet 1 (val (eCall s_image (aCons (eV 0) (aCons (eV 1) aNil)))))
def g_turned : Es := (sSq (sFor (.n 3) [3] (iR1 (eV 2)) b_turned_1)
  (sRet (eV 1)))
def s_turned : Df := run 3 1 g_turned
/- law_size(law_rule, law_sizes_now, law_word_here): slots 0=law_rule 1=law_sizes_now 2=law_word_here 3=law_sign -/
def x_law_size_1 : Ev := (e2 opIx (eV 1) (eM opIndex (eC (.str [97, 98, 99, 100])) (eV 3)))
def g_law_size : Es := (sRet (e1 opSum (eComp (.n 3) [3] (iE (eV 2)) none x_law_size_1)))
def s_law_size : Df := run 3 1 g_law_size
/- law_many_turns(law_script): slots 0=law_script 1=law_number 2=law_many 3=law_rule 4=law_k 5=law_word_here 6=law_sizes_now 7=law_times 8=law_beyond 9=law_kept 10=law_found 11=law_error 12=law_one -/
def b_law_many_turns_1 : Es := (sAppend 3 (val (eCall s_law_word (aCons (val (eCall s_law_mixed (aCons (val (eCall s_law_cell (aCons (eV 0) (aCons (e2 opAdd (eC (.int 4)) (eV 4)) aNil)))) (aCons (eV 4) aNil)))) (aCons (eV 2) (aCons (e2 opAdd (eC (.int 1)) (e2 opMod (e2 opDiv (eV 1) (e2 opAdd (eC (.int 4)) (eV 4))) (eC (.int 3)))) aNil))))))
def x_law_many_turns_2 : Ev := (val (eCall s_law_size (aCons (eV 3) (aCons (eV 6) (aCons (eV 12) aNil)))))
def c_law_many_turns_3 : Ev := (eAnd (e2 opLt (eV 7) (e2 opAdd (eC (.int 2)) (e2 opMod (e2 opDiv (eV 1) (eC (.int 512))) (eC (.int 39))))) (e2 opLt (eV 8) (e2 opAdd (eC (.int 1)) (e2 opMod (e2 opDiv (eV 1) (eC (.int 8))) (eC (.int 3))))))
def b_law_many_turns_4 : Es := (sSq (sSet 6 (eFrz 3 (eComp (.n 12) [12] (iE (eV 3)) none x_law_many_turns_2)))
  (sSq (sSet 7 (e2 opAdd (eV 7) (eC (.int 1))))
  (sSet 8 (eThaw (e2 opAdd (eV 8) (e1 opInt (e2 opGt (val (eCall s_law_size (aCons (eV 3) (aCons (eV 6) (aCons (eV 5) aNil))))) (eC (.int 20000)))))))))
def g_law_many_turns : Es := (sSq (sSet 1 (val (eCall s_law_mixed (aCons (val (eCall s_law_cell (aCons (eV 0) (aCons (eC (.int 3)) aNil)))) (aCons (eC (.int 3)) aNil)))))
  (sSq (sSet 2 (e2 opAdd (eC (.int 2)) (e2 opMod (eV 1) (eC (.int 3)))))
  (sSq (sOwn 3 (own (eLst aNil)))
  (sSq (sFor (.n 4) [4] (iR1 (eV 2)) b_law_many_turns_1)
  (sSq (sSet 5 (val (eCall s_law_word (aCons (val (eCall s_law_mixed (aCons (val (eCall s_law_cell (aCons (eV 0) (aCons (eC (.int 8)) aNil)))) (aCons (eC (.int 8)) aNil)))) (aCons (eV 2) (aCons (e2 opMod (e2 opDiv (eV 1) (eC (.int 64))) (eC (.int 6))) aNil))))))
  (sSq (sSet 6 (eFrz 3 (eComp (.n 12) [12] (iE (eV 3)) none (eC (.int 1)))))
  (sSq (sSet 7 (eC (.int 0)))
  (sSq (sSet 8 (eC (.int 0)))
  (sSq (sWhile [] c_law_many_turns_3 b_law_many_turns_4)
  (sSq (sSet 9 (eC .non))
  (sSq (sSet 10 (eC .non))
  (sSq (sTryK 11 9 (sSet 10 (eFrz 3 (val (eCall s_turned (aCons (e1 opTuple (eV 3)) (aCons (eV 5) (aCons (eV 7) aNil))))))))
  (sRet (eThaw (val (eCall s_law_due (aCons (eLst (aCons (eV 10) (aCons (eV 9) aNil))) (aCons (val (eCall s_law_size (aCons (eV 3) (aCons (eV 6) (aCons (eV 5) aNil))))) (aCons (eC (.int 20000)) aNil)))))))))))))))))))
def s_law_many_turns : Df := run 1 12 g_law_many_turns
/- behind(first, later): slots 0=first 1=later 2=word -/
def x_behind_1 : Ev := (val (eCall s_image_within (aCons (eV 1) (aCons (eV 2) (aCons (eC c_MOST_WORD) aNil)))))
def g_behind : Es := (sRet (e1 opTuple (eCompR (.n 2) [2] (iE (eV 0)) x_behind_1)))
def s_behind : Df := run 2 1 g_behind
/- law_told(law_way, law_rule, law_word_here, law_later): slots 0=law_way 1=law_rule 2=law_word_here 3=law_later 4=law_kept 5=law_found 6=law_error -/
def g_law_told : Es := (sSq (sSet 4 (eC .non))
  (sSq (sSet 5 (eC .non))
  (sSq (sTryK 6 4 (sIf (e2 opEq (eV 0) (eC (.int 0)))
  (sSet 5 (val (eCall s_image (aCons (eV 1) (aCons (eV 2) aNil))))) (sIf (e2 opEq (eV 0) (eC (.int 1)))
  (sSet 5 (val (eCall s_turned (aCons (eV 1) (aCons (eV 2) (aCons (eC (.int 1)) aNil)))))) (sSet 5 (val (eCall s_behind (aCons (eV 1) (aCons (eV 3) aNil))))))))
  (sRet (eLst (aCons (eV 5) (aCons (eV 4) aNil)))))))
def s_law_told : Df := run 4 3 g_law_told
/- law_behind_due(law_first, law_later): slots 0=law_first 1=law_later 2=law_size_here 3=law_word_here 4=law_told_here 5=law_sign -/
def x_law_behind_due_1 : Ev := (e1 opLen (e2 opIx (eV 1) (eM opIndex (eC (.str [97, 98, 99, 100])) (eV 5))))
def b_law_behind_due_2 : Es := (sSet 2 (e2 opMax2 (eV 2) (e1 opSum (eComp (.n 5) [5] (iE (eV 3)) none x_law_behind_due_1))))
def g_law_behind_due : Es := (sSq (sSet 2 (eC (.int 0)))
  (sSq (sFor (.n 3) [] (iE (eV 0)) b_law_behind_due_2)
  (sSq (sSet 4 (val (eCall s_law_told (aCons (eC (.int 2)) (aCons (eV 0) (aCons (eC (.str [])) (aCons (eV 1) aNil)))))))
  (sSq (sIf (e2 opGt (eV 2) (eC (.int 100)))
  (sRet (val (eCall s_law_refused (aCons (e2 opIx (eV 4) (eC (.int 1))) (aCons (eC (.int 100)) aNil))))) sNx)
  (sRet (eAnd (e1 (opIsI 4) (e2 opIx (eV 4) (eC (.int 0)))) (e2 opEq (e1 opMaxL (eComp (.n 3) [3] (iE (e2 opIx (eV 4) (eC (.int 0)))) none (e1 opLen (eV 3)))) (eV 2))))))))
def s_law_behind_due : Df := run 2 4 g_law_behind_due
/- law(law_script): slots 0=law_script 1=law_number 2=law_other 3=law_rule 4=law_many 5=law_left 6=law_word_here 7=law_size_here 8=law_way 9=law_step 10=law_late 11=law_near 12=law_first 13=law_by_name -/
def b_law_1 : Es := (sIf (e1 opNot (val (eCall s_law_due (aCons (val (eCall s_law_told (aCons (eV 8) (aCons (eV 3) (aCons (eV 6) (aCons (eV 3) aNil)))))) (aCons (eV 7) (aCons (eC (.int 20000)) aNil))))))
  (sRet (eC (.bl false))) sNx)
def g_law : Es := (sSq (sSet 1 (val (eCall s_law_mixed (aCons (val (eCall s_law_cell (aCons (eV 0) (aCons (eC (.int 0)) aNil)))) (aCons (eC (.int 0)) aNil)))))
  (sSq (sSet 2 (e2 opAdd (eC (.int 1)) (e2 opMod (eV 1) (eC (.int 100)))))
  (sSq (sSet 3 (eTup (aCons (val (eCall s_law_word (aCons (val (eCall s_law_mixed (aCons (val (eCall s_law_cell (aCons (eV 0) (aCons (eC (.int 1)) aNil)))) (aCons (eC (.int 1)) aNil)))) (aCons (eC (.int 2)) (aCons (eC (.int 100)) aNil))))) (aCons (val (eCall s_law_word (aCons (eV 1) (aCons (eC (.int 2)) (aCons (eV 2) aNil))))) aNil))))
  (sSq (sSet 4 (e2 opAdd (eC (.int 190)) (e2 opMod (e2 opDiv (eV 1) (eC (.int 100))) (eC (.int 10)))))
  (sSq (sSet 5 (e2 opDiv (e2 opSub (eC (.int 20000)) (e2 opMul (eC (.int 100)) (eV 4))) (eV 2)))
  (sSq (sSet 6 (e2 opAdd (e2 opMul (eC (.str [97])) (eV 4)) (e2 opMul (eC (.str [98])) (e2 opMax2 (eC (.int 0)) (e2 opAdd (eV 5) (e2 opIx (eLst (aCons (eC (.int 0)) (aCons (eC (.int 1)) (aCons (eC (.int 0)) (aCons (eC (.int 2)) (aCons (e1 opNeg (eC (.int 1))) (aCons (eC (.int 40)) aNil))))))) (e2 opMod (e2 opDiv (eV 1) (eC (.int 1000))) (eC (.int 6)))))))))
  (sSq (sSet 7 (e2 opAdd (e2 opMul (eC (.int 100)) (eV 4)) (e2 opMul (eV 2) (e2 opSub (e1 opLen (eV 6)) (eV 4)))))
  (sSq (sFor (.n 8) [8] (iE (eLst (aCons (eC (.int 0)) (aCons (eC (.int 1)) aNil)))) b_law_1)
  (sSq (sSet 9 (e2 opAdd (eC (.int 1)) (e2 opMod (val (eCall s_law_mixed (aCons (val (eCall s_law_cell (aCons (eV 0) (aCons (eC (.int 2)) aNil)))) (aCons (eC (.int 2)) aNil)))) (eC (.int 20)))))
  (sSq (sSet 10 (eTup (aCons (e2 opMul (eC (.str [97])) (eV 9)) (aCons (e2 opMul (eC (.str [98])) (e2 opAdd (eC (.int 1)) (e2 opMod (e2 opDiv (eV 1) (eC (.int 6000))) (eC (.int 20))))) aNil))))
  (sSq (sSet 11 (e2 opAdd (e2 opDiv (eC (.int 100)) (eV 9)) (e2 opIx (eLst (aCons (eC (.int 0)) (aCons (eC (.int 1)) (aCons (eC (.int 0)) (aCons (e1 opNeg (eC (.int 1))) aNil))))) (e2 opMod (e2 opDiv (eV 1) (eC (.int 200000))) (eC (.int 4))))))
  (sSq (sSet 12 (eTup (aCons (e2 opMul (eC (.str [97])) (e2 opMax2 (eC (.int 1)) (e2 opMin2 (eC (.int 100)) (eV 11)))) (aCons (eC (.str [98, 97])) aNil))))
  (sSq (sIf (eOr (e1 opNot (val (eCall s_law_behind_due (aCons (eV 12) (aCons (eV 10) aNil))))) (e1 opNot (val (eCall s_law_behind_due (aCons (eV 10) (aCons (eV 12) aNil))))))
  (sRet (eC (.bl false))) sNx)
  (sSq (sIf (e1 opNot (val (eCall s_law_many_turns (aCons (eV 0) aNil))))
  (sRet (eC (.bl false))) sNx)
  (sSq (sSet 13 (eMk 7 (eV 1)))
  (sRet (eAnd (e2 opIs (e1 (opMost [7]) (eMk0 7)) (eC .non)) (eAnd (e2 opEq (e1 (opMost [7]) (eMk 7 (eV 1))) (eV 1)) (e2 opEq (e1 (opMost [7]) (eV 13)) (eV 1))))))))))))))))))))
def s_law : Df := run 1 13 g_law
end NV.K06

set_option Elab.async false
set_option linter.all false
set_option maxRecDepth 100000
namespace NV.K06
open NV
theorem mixed_ok (c k : Int) (hk : k.natAbs < 2 ^ 30) : s_law_mixed [.v (.int c), .v (.int k)] = .ok (.v (.int (mix c k))) [.v (.int c), .v (.int k)] := by
  have h1 : (c % 2147483647).natAbs < 2 ^ 64 := by omega
  have h2 : (104659 * k).natAbs < 2 ^ 64 := by omega
  have hm : ((c % 2147483647 * 69621 + 104659 * k * k + 7877) % 2147483647).natAbs < 2 ^ 64 := by omega
  rw [s_law_mixed, run_ap (by rfl)]
  simp -implicitDefEqProofs [g_law_mixed, opMul_int h1 (show (69621 : Int).natAbs < 2 ^ 64 by decide), opMul_int (show (104659 : Int).natAbs < 2 ^ 64 by decide) (show k.natAbs < 2 ^ 64 by omega), opMul_int h2 (show k.natAbs < 2 ^ 64 by omega), opMul_int hm hm, lent, mix]
theorem cell_ok (ns : List Int) (k : Nat) : s_law_cell [.v (.scr (ns.map D.int)), .v (.int (k : Int))] = .ok (.v (.int (cell ns k))) [.v (.scr (ns.map D.int)), .v (.int (k : Int))] := by
  rw [s_law_cell, run_ap (by rfl)]
  by_cases h : k < ns.length
  · simp -implicitDefEqProofs [g_law_cell, cell_lt ns h, h, lent]
  · simp -implicitDefEqProofs [g_law_cell, h, lent, cell]
theorem mixN (c : Int) (j : Nat) (hj : j < 2 ^ 29) : s_law_mixed [.v (.int c), .v (.int (j : Int))] = .ok (.v (.int (mix c j))) [.v (.int c), .v (.int (j : Int))] := mixed_ok _ _ (by omega)
theorem word_ok (n : Int) (m size : Nat) (hn : 0 ≤ n) (hn2 : n < 2 ^ 32) (hm1 : 1 ≤ m) (hm2 : m ≤ 4) (hs : size ≤ 1000) : ∃ w : List Nat, IsW m w ∧ w.length = size ∧ s_law_word [.v (.int n), .v (.int (m : Int)), .v (.int (size : Int))] = .ok (.v (.str w)) [.v (.int n), .v (.int (m : Int)), .v (.int (size : Int))] := by
  obtain ⟨ρ', k1, w, n', hw, hw2, h0, h1, rfl⟩ := forL_inv (g := .n 4) (ks := [4]) (b := b_law_word_1) (fun i ρ => ∃ (w : List Nat) (n : Int), IsW m w ∧ w.length = i ∧ 0 ≤ n ∧ n < 2 ^ 32 ∧ ρ = [.v (.int n), .v (.int (m : Int)), .v (.int (size : Int)), .v (.str w), .un]) (rng 0 size) 0 [.v (.int n), .v (.int (m : Int)), .v (.int (size : Int)), .v (.str []), .un] ⟨[], n, IsW.nil, rfl, hn, hn2, rfl⟩ (fun j x ρ hx hI => by
    obtain ⟨w, n, hw, hw2, h0, h1, rfl⟩ := hI
    obtain ⟨rfl, hb⟩ := rng_get0 hx
    have e1 : opMul (.int (n + (j : Int) + 3)) (.int 48271) = some (.int ((n + (j : Int) + 3) * 48271)) := opMul_int (by omega) (by decide)
    have h2 : 0 ≤ (n + (j : Int) + 3) * 48271 % 2147483647 ∧ (n + (j : Int) + 3) * 48271 % 2147483647 < 2147483647 := by omega
    have e5 : opMod (.int ((n + (j : Int) + 3) * 48271)) (.int 2147483647) = some (.int ((n + (j : Int) + 3) * 48271 % 2147483647)) := opMod_int (by decide)
    generalize (n + (j : Int) + 3) * 48271 % 2147483647 = z at h2 e5
    have e3 : opDiv (.int z) (.int 64) = some (.int (z / 64)) := opDiv_int (by decide) (by decide)
    have e6 : opMod (.int (z / 64)) (.int (m : Int)) = some (.int (z / 64 % m)) := opMod_int (by omega)
    obtain ⟨c, c1, c2, e2⟩ := abcd_ix (m := m) (i := z / 64 % m) (Int.emod_nonneg _ (by omega)) (Int.emod_lt_of_pos _ (by omega)) hm2
    have e4 : opAdd (.str w) (.str [c]) = some (.str (w ++ [c])) := opAdd_str (by simp [line]; omega)
    refine ⟨_, [.v (.int z), .v (.int (m : Int)), .v (.int (size : Int)), .v (.str (w ++ [c])), .v (.int (j : Int))], rfl, .inl ?_, w ++ [c], z, hw.app (fun x hx => ?_), by simp [hw2], h2.1, by omega, by simp⟩
    · simp -implicitDefEqProofs [b_law_word_1, e1, e5, e3, e6, e2, e4]
    · rw [List.mem_singleton] at hx
      subst hx
      exact ⟨c1, c2⟩)
  refine ⟨w, hw, by rw [hw2, rng_len]; omega, ?_⟩
  rw [s_law_word, run_ap (by rfl)]
  simp -implicitDefEqProofs [g_law_word, inR_of (show (-1000000000 : Int) ≤ size by omega) (by omega), k1, lent]
/-! what raises -/
theorem sDrop_rz {f : Ev} {ρ ρ' : Env} {x : Exn} (h : f ρ = .rz x ρ') : sDrop f ρ = .rz x ρ' := by
  unfold sDrop
  rw [h]
  exact Res.bind_rz x ρ' _
theorem sTryK_rz {i j : Nat} {b : Es} {ρ ρ' : Env} {x : Exn} (h : b ρ = .rz x ρ') : sTryK i j b ρ = .ok .nx (((ρ'.set i .un).set j (.v (.exc x.k x.m))).set i .un) := by
  unfold sTryK
  rw [h]
theorem sTryK_nx {i j : Nat} {b : Es} {ρ ρ' : Env} (h : b ρ = .ok .nx ρ') : sTryK i j b ρ = .ok .nx ρ' := by
  unfold sTryK
  rw [h]
theorem sRaise_ap {k : Nat} {f : Ea} {ρ ρ' : Env} {ds : List D} (h : f ρ = .ok ds ρ') : sRaise k f ρ = .rz ⟨k, ds⟩ ρ' := by
  unfold sRaise
  rw [h]; rfl
theorem whileL_rz {ks : List Nat} {c : Ev} {b : Es} (st : Nat → Env) (n : Nat) {x : Exn} {ρ' : Env} (hc : ∀ j, j ≤ n → c (st j) = .ok (.bl true) (st j)) (hb : ∀ j, j < n → Nx ks (b (st j)) (· = st (j + 1))) (hd : b (st n) = .rz x ρ') (hf : n < 1000000) : whileL ks c b fuel (st 0) = .rz x ρ' := by
  suffices ∀ (k f i : Nat), i + k = n → k < f → whileL ks c b f (st i) = .rz x ρ' from this n fuel 0 (by omega) hf
  intro k
  induction k with
  | zero =>
    intro f i hi hk
    obtain rfl : i = n := by omega
    match f, hk with
    | f + 1, _ => rw [whileL, hc i (Nat.le_refl _)]; simp only [Res.bind_ok, hd]
  | succ k ih =>
    intro f i hi hk
    match f, hk with
    | f + 1, hk =>
      rw [whileL, hc i (by omega)]
      obtain ⟨ρ, h, e⟩ := hb i (by omega)
      have := ih f (i + 1) (by omega) (by omega)
      rw [← e] at this
      rcases h with h | h
      · simp only [Res.bind_ok, h]; exact this
      · simp only [Res.bind_ok, h]; exact this
/-- a loop that returns at the first x for which q tells what -/
theorem forL_find {g : Tg} {ks : List Nat} {b : Es} (I : Nat → Env → Prop) (q : D → Option Sl) : ∀ (xs : List D) (i : Nat) (ρ : Env), I i ρ → (∀ j x ρ, xs[j]? = some x → I (i + j) ρ → (q x = none → ∃ ρ1 ρ2, g.put x ρ = some ρ1 ∧ (b ρ1 = .ok .nx ρ2 ∨ b ρ1 = .ok .cnt ρ2) ∧ I (i + j + 1) (wipeE ρ2 ks)) ∧ (∀ r, q x = some r → ∃ ρ1 ρ2, g.put x ρ = some ρ1 ∧ b ρ1 = .ok (.ret r) ρ2)) →
    (xs.findSome? q = none → ∃ ρ', forL g ks b xs ρ = .ok .nx ρ' ∧ I (i + xs.length) ρ') ∧ (∀ r, xs.findSome? q = some r → ∃ ρ', forL g ks b xs ρ = .ok (.ret r) ρ')
  | [], i, ρ, h, _ => ⟨fun _ => ⟨ρ, rfl, h⟩, fun r h => by cases h⟩
  | x :: r, i, ρ, h, hs => by
    obtain ⟨h1, h2⟩ := hs 0 x ρ rfl h
    rw [List.findSome?_cons]
    cases e : q x with
    | some s =>
      obtain ⟨ρ1, ρ2, h3, h4⟩ := h2 s e
      exact ⟨fun z => (by cases z), fun r z => (by cases z; exact ⟨ρ2, forL_ret h3 h4⟩)⟩
    | none =>
      obtain ⟨ρ1, ρ2, h3, h4, h5⟩ := h1 e
      have ih := forL_find I q r (i + 1) (wipeE ρ2 ks) h5 fun j y ρ hy hI => by
        have := hs (j + 1) y ρ (by simpa using hy) (by rwa [show i + (j + 1) = i + 1 + j by omega])
        rwa [show i + (j + 1) + 1 = i + 1 + j + 1 by omega] at this
      have el : forL g ks b (x :: r) ρ = forL g ks b r (wipeE ρ2 ks) := by
        rcases h4 with h4 | h4
        · exact forL_nx h3 h4
        · exact forL_cnt h3 h4
      rw [el, List.length_cons, show i + (r.length + 1) = i + 1 + r.length by omega]
      exact ih
theorem rng_nat (a b : Nat) : rng (a : Int) (b : Int) = (List.range (b - a)).map fun i => D.int ((a + i : Nat) : Int) := by
  unfold rng
  rw [show ((b : Int) - (a : Int)).toNat = b - a by omega]
  refine List.map_congr_left fun i _ => ?_
  rw [Int.natCast_add]
/-! image_within: told or refused -/
theorem number_ok {m c : Nat} (h0 : 97 ≤ c) (h : c < 97 + m) (hm : m ≤ 4) : s_number_of [.v (.str [c])] = .ok (.v (.int ((c - 97 : Nat) : Int))) [.v (.str [c])] := by
  rw [s_number_of, run_ap (by rfl)]
  simp -implicitDefEqProofs [g_number_of, c_LETTERS, abcd_no h0 h hm, lent]
theorem within_pre {m b : Nat} {ws : List (List Nat)} (hr : IsR m b ws) (hm : m ≤ 4) {w : List Nat} (hw : IsW m w) (hb : b ≤ 1000000) (hl : w.length ≤ 1000000) (a2 : Sl) :
    eComp (.n 4) [4] (iE (eV 1)) none x_image_within_1 [.v (.tup (ws.map D.str)), .v (.str w), a2, .un, .un, .un] = .ok (.lst ((imgs ws w).map D.str)) [.v (.tup (ws.map D.str)), .v (.str w), a2, .un, .un, .un] ∧
    eComp (.n 5) [5] (iE (eV 3)) none (NV.e1 opLen (eV 5)) [.v (.tup (ws.map D.str)), .v (.str w), a2, .v (.lst ((imgs ws w).map D.str)), .un, .un] = .ok (.lst (((imgs ws w).map fun w => (w.length : Int)).map D.int)) [.v (.tup (ws.map D.str)), .v (.str w), a2, .v (.lst ((imgs ws w).map D.str)), .un, .un] := by
  have c1 := eComp_map (g := .n 4) (ws := [4]) (it := iE (eV 1)) (f := x_image_within_1) (ρ := [.v (.tup (ws.map D.str)), .v (.str w), a2, .un, .un, .un]) (fun d => match d with | .str [c] => .str (ws.getD (c - 97) []) | d => d) (w.map fun c => D.str [c]) (by simp) (fun x hx => by
    obtain ⟨c, hc, rfl⟩ := List.mem_map.mp hx
    obtain ⟨h1, h2⟩ := hw c hc
    refine ⟨[.v (.tup (ws.map D.str)), .v (.str w), a2, .un, .v (.str [c]), .un], rfl, ?_, rfl⟩
    simp -implicitDefEqProofs [x_image_within_1, number_ok h1 h2 hm, ix_rule hr.len h1 h2]) (by rw [List.length_map]; unfold line; omega)
  have e1 : (w.map fun c => D.str [c]).map (fun d => match d with | .str [c] => .str (ws.getD (c - 97) []) | d => d) = (imgs ws w).map D.str := by
    rw [imgs, List.map_map, List.map_map]; rfl
  rw [e1] at c1
  have c2 := eComp_map (g := .n 5) (ws := [5]) (it := iE (eV 3)) (f := NV.e1 opLen (eV 5)) (ρ := [.v (.tup (ws.map D.str)), .v (.str w), a2, .v (.lst ((imgs ws w).map D.str)), .un, .un]) (fun d => match d with | .str w => .int w.length | d => d) ((imgs ws w).map D.str) (by simp) (fun x hx => by
    obtain ⟨v, hv, rfl⟩ := List.mem_map.mp hx
    have h1 := (imgs_len hr hw v hv).2
    have e2 : opLen (.str v) = some (.int v.length) := opLen_str (by unfold line; omega)
    refine ⟨[.v (.tup (ws.map D.str)), .v (.str w), a2, .v (.lst ((imgs ws w).map D.str)), .un, .v (.str v)], rfl, ?_, rfl⟩
    simp -implicitDefEqProofs [e2]) (by rw [List.length_map, imgs, List.length_map]; unfold line; omega)
  have e3 : ((imgs ws w).map D.str).map (fun d => match d with | .str w => D.int w.length | d => d) = ((imgs ws w).map fun w => (w.length : Int)).map D.int := by
    rw [List.map_map, List.map_map]; rfl
  rw [e3] at c2
  exact ⟨c1, c2⟩
theorem img_sum (ws : List (List Nat)) (w : List Nat) : (img ws w).length = ((imgs ws w).map List.length).sum := by rw [img, List.length_flatten]
theorem within_ok {m b : Nat} {ws : List (List Nat)} (hr : IsR m b ws) (hm : m ≤ 4) {w : List Nat} (hw : IsW m w) (hb : b ≤ 1000000) (hl : w.length ≤ 1000000) (most : Nat) (hs : (img ws w).length ≤ most) (hs2 : most ≤ 1000000) :
    s_image_within [.v (.tup (ws.map D.str)), .v (.str w), .v (.int (most : Int))] = .ok (.v (.str (img ws w))) [.v (.tup (ws.map D.str)), .v (.str w), .v (.int (most : Int))] := by
  obtain ⟨c1, c2⟩ := within_pre hr hm hw hb hl (.v (.int (most : Int)))
  have e4 := sum_ok ((imgs ws w).map fun w => (w.length : Int))
  rw [sumI] at e4
  rw [img_sum] at hs
  have e5 := join_ok (imgs ws w) (by unfold line; omega)
  have e6 : ¬ ((most : Int) < (((imgs ws w).map List.length).sum : Nat)) := by omega
  rw [s_image_within, run_ap (by rfl)]
  unfold img
  generalize (((imgs ws w).map fun w => (w.length : Int)).map D.int) = L at *
  generalize ((imgs ws w).map List.length).sum = q at *
  generalize (imgs ws w).flatten = F at *
  generalize (imgs ws w).map D.str = I at *
  generalize ws.map D.str = V at *
  simp -implicitDefEqProofs [g_image_within, c1, c2, e4, e5, e6, lent]
theorem raise7 {f : Ev} {ρ ρ' : Env} {d : D} (h : f ρ = .ok d ρ') : sRaise 7 (aCons f aNil) ρ = .rz ⟨7, [d]⟩ ρ' := sRaise_ap (by simp [h])
theorem within_rz {m b : Nat} {ws : List (List Nat)} (hr : IsR m b ws) (hm : m ≤ 4) {w : List Nat} (hw : IsW m w) (hb : b ≤ 1000000) (hl : w.length ≤ 1000000) (most : Nat) (hs : most < (img ws w).length) :
    s_image_within [.v (.tup (ws.map D.str)), .v (.str w), .v (.int (most : Int))] = .rz ⟨7, [.int (most : Int)]⟩ [.v (.tup (ws.map D.str)), .v (.str w), .v (.int (most : Int))] := by
  obtain ⟨c1, c2⟩ := within_pre hr hm hw hb hl (.v (.int (most : Int)))
  have e4 := sum_ok ((imgs ws w).map fun w => (w.length : Int))
  rw [sumI] at e4
  rw [img_sum] at hs
  have e6 : ((most : Int) < (((imgs ws w).map List.length).sum : Nat)) := by omega
  rw [s_image_within, run_ap (by rfl)]
  generalize (((imgs ws w).map fun w => (w.length : Int)).map D.int) = L at *
  generalize ((imgs ws w).map List.length).sum = q at *
  generalize (imgs ws w).map D.str = I at *
  generalize ws.map D.str = V at *
  have rz : sRaise 7 (aCons (eV 2) aNil) [.v (.tup V), .v (.str w), .v (.int (most : Int)), .v (.lst I), .un, .un] = .rz ⟨7, [.int (most : Int)]⟩ [.v (.tup V), .v (.str w), .v (.int (most : Int)), .v (.lst I), .un, .un] := raise7 rfl
  simp -implicitDefEqProofs [g_image_within, c1, c2, e4, e6, rz, lent]
theorem image_ok {m b : Nat} {ws : List (List Nat)} (hr : IsR m b ws) (hm : m ≤ 4) {w : List Nat} (hw : IsW m w) (hb : b ≤ 1000000) (hl : w.length ≤ 1000000) (hs : (img ws w).length ≤ 20000) :
    s_image [.v (.tup (ws.map D.str)), .v (.str w)] = .ok (.v (.str (img ws w))) [.v (.tup (ws.map D.str)), .v (.str w)] := by
  rw [s_image, run_ap (by rfl)]
  have := within_ok hr hm hw hb hl 20000 hs (by decide)
  rw [show ((20000 : Nat) : Int) = 20000 from rfl] at this
  simp -implicitDefEqProofs [g_image, c_MOST_IMAGE, this, lent]
theorem image_rz {m b : Nat} {ws : List (List Nat)} (hr : IsR m b ws) (hm : m ≤ 4) {w : List Nat} (hw : IsW m w) (hb : b ≤ 1000000) (hl : w.length ≤ 1000000) (hs : 20000 < (img ws w).length) :
    s_image [.v (.tup (ws.map D.str)), .v (.str w)] = .rz ⟨7, [.int 20000]⟩ [.v (.tup (ws.map D.str)), .v (.str w)] := by
  rw [s_image, run_ap (by rfl)]
  have := within_rz hr hm hw hb hl 20000 hs
  rw [show ((20000 : Nat) : Int) = 20000 from rfl] at this
  simp -implicitDefEqProofs [g_image, c_MOST_IMAGE, this, lent]
/-- put so often -/
def itr (ws : List (List Nat)) : Nat → List Nat → List Nat
  | 0, w => w
  | n + 1, w => img ws (itr ws n w)
theorem itr_w {m b : Nat} {ws : List (List Nat)} (hr : IsR m b ws) {w : List Nat} (hw : IsW m w) : ∀ n, IsW m (itr ws n w)
  | 0 => hw
  | n + 1 => img_w hr (itr_w hr hw n)
theorem img_ge {m b : Nat} {ws : List (List Nat)} (hr : IsR m b ws) {w : List Nat} (hw : IsW m w) : w.length ≤ (img ws w).length := by
  have := sum_ge (ws := imgs ws w) fun v hv => by
    obtain ⟨c, hc, rfl⟩ := List.mem_map.mp hv
    have := hw c hc
    exact (hr.get (i := c - 97) (by omega)).2.1
  rw [imgs, List.length_map] at this
  rw [img, List.length_flatten, imgs]
  exact this
theorem itr_le {m b : Nat} {ws : List (List Nat)} (hr : IsR m b ws) {w : List Nat} (hw : IsW m w) : ∀ {i j : Nat}, i ≤ j → (itr ws i w).length ≤ (itr ws j w).length
  | i, 0, h => by rw [show i = 0 by omega]; exact Nat.le_refl _
  | i, j + 1, h => by
    by_cases e : i = j + 1
    · rw [e]; exact Nat.le_refl _
    · exact Nat.le_trans (itr_le hr hw (show i ≤ j by omega)) (img_ge hr (itr_w hr hw j))
theorem turned_ok {m b : Nat} {ws : List (List Nat)} (hr : IsR m b ws) (hm : m ≤ 4) (hb : b ≤ 1000000) {w : List Nat} (hw : IsW m w) (t : Nat) (ht : t ≤ 1000) (hw2 : w.length ≤ 20000) (hs : (itr ws t w).length ≤ 20000) :
    s_turned [.v (.tup (ws.map D.str)), .v (.str w), .v (.int (t : Int))] = .ok (.v (.str (itr ws t w))) [.v (.tup (ws.map D.str)), .v (.str w), .v (.int (t : Int))] := by
  have r1 := inR_of (show (-1000000000 : Int) ≤ (t : Int) by omega) (by omega)
  have key := forL_at (g := .n 3) (ks := [3]) (b := b_turned_1) (fun j => [.v (.tup (ws.map D.str)), .v (.str (itr ws j w)), .v (.int (t : Int)), .un]) (rng 0 (t : Int)) (fun j x hx => by
    obtain ⟨rfl, hj⟩ := rng_get0 hx
    have l1 := itr_le hr hw (show j + 1 ≤ t by omega)
    have l2 := itr_le hr hw (show j ≤ t by omega)
    have im := image_ok hr hm (itr_w hr hw j) hb (by omega) (by show (itr ws (j + 1) w).length ≤ _; omega)
    rw [show img ws (itr ws j w) = itr ws (j + 1) w from rfl] at im
    generalize itr ws (j + 1) w = A at *
    generalize itr ws j w = B at *
    simp -implicitDefEqProofs [b_turned_1, im])
  rw [rng_len, show ((t : Int) - 0).toNat = t by omega, show itr ws 0 w = w from rfl] at key
  generalize itr ws t w = A at *
  rw [s_turned, run_ap (by rfl)]
  simp -implicitDefEqProofs [g_turned, r1, key, lent]
/-! what is kept, and due -/
theorem isZ1 (n : Int) : opIsX [7] 7 (.exc 7 [.int n]) = some (.bl true) := by simp [opIsX, subX]
theorem isZ2 (n : Int) : opIsX [7] 8 (.exc 7 [.int n]) = some (.bl true) := by simp [opIsX, subX]
theorem isZ3 (n : Int) {k : Nat} (h : k = 1 ∨ k = 2 ∨ k = 3 ∨ k = 4 ∨ k = 5 ∨ k = 6) : opIsX [7] k (.exc 7 [.int n]) = some (.bl false) := by
  rcases h with rfl | rfl | rfl | rfl | rfl | rfl <;> simp [opIsX, subX]
theorem isZ4 (d : D) : opMost [7] (.exc 7 [d]) = some d := by simp [opMost]
theorem others_ok (n : Int) : s_law_others [.v (.exc 7 [.int n])] = .ok (.v (.bl false)) [.v (.exc 7 [.int n])] := by
  rw [s_law_others, run_ap (by rfl)]
  simp -implicitDefEqProofs [g_law_others, isZ3 n (.inl rfl), isZ3 n (.inr (.inl rfl)), isZ3 n (.inr (.inr (.inl rfl))), isZ3 n (.inr (.inr (.inr (.inl rfl)))), isZ3 n (.inr (.inr (.inr (.inr (.inl rfl))))), isZ3 n (.inr (.inr (.inr (.inr (.inr rfl))))), opAdd, opIn, D.flat, D.eqv, line, lent]
theorem refused_ok (n : Int) : s_law_refused [.v (.exc 7 [.int n]), .v (.int n)] = .ok (.v (.bl true)) [.v (.exc 7 [.int n]), .v (.int n)] := by
  rw [s_law_refused, run_ap (by rfl)]
  simp -implicitDefEqProofs [g_law_refused, isZ1, isZ2, isZ4, others_ok, opIsI, opEq, D.lv, D.eqv, lent]
theorem due_rz (bd : Int) {q : Int} (h : bd < q) : s_law_due [.v (.lst [.non, .exc 7 [.int bd]]), .v (.int q), .v (.int bd)] = .ok (.v (.bl true)) [.v (.lst [.non, .exc 7 [.int bd]]), .v (.int q), .v (.int bd)] := by
  have r := refused_ok bd
  rw [s_law_due, run_ap (by rfl)]
  simp -implicitDefEqProofs [g_law_due, h, r, opIx, at?, ixN, lent]
theorem due_ok (bd : Int) {q : Nat} {w : List Nat} (h : ¬ bd < (q : Int)) (hw : w.length = q) (hl : q ≤ 1000000) : s_law_due [.v (.lst [.str w, .non]), .v (.int (q : Int)), .v (.int bd)] = .ok (.v (.bl true)) [.v (.lst [.str w, .non]), .v (.int (q : Int)), .v (.int bd)] := by
  have e1 : opLen (.str w) = some (.int (q : Int)) := by rw [opLen_str (by unfold line; omega), hw]
  rw [s_law_due, run_ap (by rfl)]
  simp -implicitDefEqProofs [g_law_due, h, e1, opIx, at?, ixN, opIsI, opIsN, opIs, opEq, D.lv, D.eqv, lent]
/-! what is told -/
theorem told0_ok {V : List D} {w v : List Nat} {l : D} (h : s_image [.v (.tup V), .v (.str w)] = .ok (.v (.str v)) [.v (.tup V), .v (.str w)]) : s_law_told [.v (.int 0), .v (.tup V), .v (.str w), .v l] = .ok (.v (.lst [.str v, .non])) [.v (.int 0), .v (.tup V), .v (.str w), .v l] := by
  rw [s_law_told, run_ap (by rfl)]
  simp -implicitDefEqProofs [g_law_told, sTryK, h, opEq, D.lv, D.eqv, lent, line]
theorem told0_rz {V : List D} {w : List Nat} {l : D} (h : s_image [.v (.tup V), .v (.str w)] = .rz ⟨7, [.int 20000]⟩ [.v (.tup V), .v (.str w)]) : s_law_told [.v (.int 0), .v (.tup V), .v (.str w), .v l] = .ok (.v (.lst [.non, .exc 7 [.int 20000]])) [.v (.int 0), .v (.tup V), .v (.str w), .v l] := by
  rw [s_law_told, run_ap (by rfl)]
  simp -implicitDefEqProofs [g_law_told, sTryK, h, opEq, D.lv, D.eqv, lent, line]
theorem told1_ok {V : List D} {w v : List Nat} {l : D} (h : s_turned [.v (.tup V), .v (.str w), .v (.int 1)] = .ok (.v (.str v)) [.v (.tup V), .v (.str w), .v (.int 1)]) : s_law_told [.v (.int 1), .v (.tup V), .v (.str w), .v l] = .ok (.v (.lst [.str v, .non])) [.v (.int 1), .v (.tup V), .v (.str w), .v l] := by
  rw [s_law_told, run_ap (by rfl)]
  simp -implicitDefEqProofs [g_law_told, sTryK, h, opEq, D.lv, D.eqv, lent, line]
theorem told1_rz {V : List D} {w : List Nat} {l : D} (h : s_turned [.v (.tup V), .v (.str w), .v (.int 1)] = .rz ⟨7, [.int 20000]⟩ [.v (.tup V), .v (.str w), .v (.int 1)]) : s_law_told [.v (.int 1), .v (.tup V), .v (.str w), .v l] = .ok (.v (.lst [.non, .exc 7 [.int 20000]])) [.v (.int 1), .v (.tup V), .v (.str w), .v l] := by
  rw [s_law_told, run_ap (by rfl)]
  simp -implicitDefEqProofs [g_law_told, sTryK, h, opEq, D.lv, D.eqv, lent, line]
theorem told2_ok {V L B : List D} {w : List Nat} (h : s_behind [.v (.tup V), .v (.tup L)] = .ok (.v (.tup B)) [.v (.tup V), .v (.tup L)]) : s_law_told [.v (.int 2), .v (.tup V), .v (.str w), .v (.tup L)] = .ok (.v (.lst [.tup B, .non])) [.v (.int 2), .v (.tup V), .v (.str w), .v (.tup L)] := by
  rw [s_law_told, run_ap (by rfl)]
  simp -implicitDefEqProofs [g_law_told, sTryK, h, opEq, D.lv, D.eqv, lent, line]
theorem told2_rz {V L : List D} {w : List Nat} (h : s_behind [.v (.tup V), .v (.tup L)] = .rz ⟨7, [.int 100]⟩ [.v (.tup V), .v (.tup L)]) : s_law_told [.v (.int 2), .v (.tup V), .v (.str w), .v (.tup L)] = .ok (.v (.lst [.non, .exc 7 [.int 100]])) [.v (.int 2), .v (.tup V), .v (.str w), .v (.tup L)] := by
  rw [s_law_told, run_ap (by rfl)]
  simp -implicitDefEqProofs [g_law_told, sTryK, h, opEq, D.lv, D.eqv, lent, line]
/-! a rule of two letters behind another -/
theorem behind2_ok {b : Nat} {ls : List (List Nat)} (hl : IsR 2 b ls) (hb : b ≤ 1000) {u0 u1 : List Nat} (h0 : IsW 2 u0) (h1 : IsW 2 u1) (l0 : u0.length ≤ 1000) (l1 : u1.length ≤ 1000) (s0 : (img ls u0).length ≤ 100) (s1 : (img ls u1).length ≤ 100) :
    s_behind [.v (.tup [.str u0, .str u1]), .v (.tup (ls.map D.str))] = .ok (.v (.tup [.str (img ls u0), .str (img ls u1)])) [.v (.tup [.str u0, .str u1]), .v (.tup (ls.map D.str))] := by
  have w0 := within_ok hl (by decide) h0 (by omega) (by omega) 100 s0 (by decide)
  have w1 := within_ok hl (by decide) h1 (by omega) (by omega) 100 s1 (by decide)
  rw [show ((100 : Nat) : Int) = 100 from rfl] at w0 w1
  generalize img ls u0 = A at *
  generalize img ls u1 = B at *
  generalize ls.map D.str = V at *
  rw [s_behind, run_ap (by rfl)]
  simp -implicitDefEqProofs [g_behind, eCompR, compL, itD, x_behind_1, c_MOST_WORD, w0, w1, Tg.put, opTuple, line, lent]
theorem behind2_rz0 {b : Nat} {ls : List (List Nat)} (hl : IsR 2 b ls) (hb : b ≤ 1000) {u0 u1 : List Nat} (h0 : IsW 2 u0) (l0 : u0.length ≤ 1000) (s0 : 100 < (img ls u0).length) :
    s_behind [.v (.tup [.str u0, .str u1]), .v (.tup (ls.map D.str))] = .rz ⟨7, [.int 100]⟩ [.v (.tup [.str u0, .str u1]), .v (.tup (ls.map D.str))] := by
  have w0 := within_rz hl (by decide) h0 (by omega) (by omega) 100 s0
  rw [show ((100 : Nat) : Int) = 100 from rfl] at w0
  generalize ls.map D.str = V at *
  rw [s_behind, run_ap (by rfl)]
  simp -implicitDefEqProofs [g_behind, eCompR, compL, itD, x_behind_1, c_MOST_WORD, w0, Tg.put, opTuple, line, lent]
theorem behind2_rz1 {b : Nat} {ls : List (List Nat)} (hl : IsR 2 b ls) (hb : b ≤ 1000) {u0 u1 : List Nat} (h0 : IsW 2 u0) (h1 : IsW 2 u1) (l0 : u0.length ≤ 1000) (l1 : u1.length ≤ 1000) (s0 : (img ls u0).length ≤ 100) (s1 : 100 < (img ls u1).length) :
    s_behind [.v (.tup [.str u0, .str u1]), .v (.tup (ls.map D.str))] = .rz ⟨7, [.int 100]⟩ [.v (.tup [.str u0, .str u1]), .v (.tup (ls.map D.str))] := by
  have w0 := within_ok hl (by decide) h0 (by omega) (by omega) 100 s0 (by decide)
  have w1 := within_rz hl (by decide) h1 (by omega) (by omega) 100 s1
  rw [show ((100 : Nat) : Int) = 100 from rfl] at w0 w1
  generalize img ls u0 = A at *
  generalize ls.map D.str = V at *
  rw [s_behind, run_ap (by rfl)]
  simp -implicitDefEqProofs [g_behind, eCompR, compL, itD, x_behind_1, c_MOST_WORD, w0, w1, Tg.put, opTuple, line, lent]
theorem bdue_comp {b : Nat} {ls : List (List Nat)} (hl : IsR 2 b ls) (hb : b ≤ 1000) {u : List Nat} (h : IsW 2 u) (lu : u.length ≤ 1000) (a0 a2 a4 : Sl) :
    eComp (.n 5) [5] (iE (eV 3)) none x_law_behind_due_1 [a0, .v (.tup (ls.map D.str)), a2, .v (.str u), a4, .un] = .ok (.lst (((imgs ls u).map fun w => (w.length : Int)).map D.int)) [a0, .v (.tup (ls.map D.str)), a2, .v (.str u), a4, .un] := by
  have c1 := eComp_map (g := .n 5) (ws := [5]) (it := iE (eV 3)) (f := x_law_behind_due_1) (ρ := [a0, .v (.tup (ls.map D.str)), a2, .v (.str u), a4, .un]) (fun d => match d with | .str [c] => .int ((ls.getD (c - 97) []).length : Int) | d => d) (u.map fun c => D.str [c]) (by simp) (fun x hx => by
    obtain ⟨c, hc, rfl⟩ := List.mem_map.mp hx
    obtain ⟨h1, h2⟩ := h c hc
    have ix := ix_rule hl.len h1 h2
    have ln := (hl.get (i := c - 97) (by omega)).2.2
    have e1 : opLen (.str (ls.getD (c - 97) [])) = some (.int ((ls.getD (c - 97) []).length : Int)) := opLen_str (by unfold line; omega)
    have no := abcd_no h1 h2 (by decide)
    refine ⟨[a0, .v (.tup (ls.map D.str)), a2, .v (.str u), a4, .v (.str [c])], rfl, ?_, rfl⟩
    dsimp only
    generalize ls.getD (c - 97) [] = v at *
    generalize ((c - 97 : Nat) : Int) = q at *
    generalize ls.map D.str = V at *
    simp -implicitDefEqProofs [x_law_behind_due_1, no, ix, e1]) (by rw [List.length_map]; unfold line; omega)
  have e1 : (u.map fun c => D.str [c]).map (fun d => match d with | .str [c] => D.int ((ls.getD (c - 97) []).length : Int) | d => d) = ((imgs ls u).map fun w => (w.length : Int)).map D.int := by
    rw [imgs, List.map_map, List.map_map, List.map_map]; rfl
  rw [e1] at c1
  exact c1
theorem behind_due_ok {a b : Nat} {ls : List (List Nat)} (hl : IsR 2 b ls) (hb : b ≤ 1000) {u0 u1 : List Nat} (h0 : IsW 2 u0) (h1 : IsW 2 u1) (l0 : u0.length ≤ 1000) (l1 : u1.length ≤ 1000) :
    s_law_behind_due [.v (.tup [.str u0, .str u1]), .v (.tup (ls.map D.str))] = .ok (.v (.bl true)) [.v (.tup [.str u0, .str u1]), .v (.tup (ls.map D.str))] := by
  have sm : ∀ u : List Nat, opSum (.lst (((imgs ls u).map fun w => (w.length : Int)).map D.int)) = some (.int ((img ls u).length : Int)) := fun u => by
    have := sum_ok ((imgs ls u).map fun w => (w.length : Int))
    rw [sumI, ← img_sum] at this
    exact this
  have i0 := img_len hl h0
  have i1 := img_len hl h1
  have i0' : (img ls u0).length ≤ 1000000 := Nat.le_trans i0 (Nat.mul_le_mul l0 hb)
  have i1' : (img ls u1).length ≤ 1000000 := Nat.le_trans i1 (Nat.mul_le_mul l1 hb)
  have m1 : opMax2 (.int 0) (.int ((img ls u0).length : Int)) = some (.int ((img ls u0).length : Int)) := by
    rw [opMax2]; congr 2; split <;> omega
  obtain ⟨M, hM⟩ : ∃ M, M = max (img ls u0).length (img ls u1).length := ⟨_, rfl⟩
  have m2 : opMax2 (.int ((img ls u0).length : Int)) (.int ((img ls u1).length : Int)) = some (.int (M : Int)) := by
    rw [opMax2]; congr 2; split <;> omega
  have b0 : ∀ a4 : Sl, b_law_behind_due_2 [.v (.tup [.str u0, .str u1]), .v (.tup (ls.map D.str)), .v (.int 0), .v (.str u0), a4, .un] = .ok .nx [.v (.tup [.str u0, .str u1]), .v (.tup (ls.map D.str)), .v (.int ((img ls u0).length : Int)), .v (.str u0), a4, .un] := fun a4 => by
    have c := bdue_comp hl hb h0 l0 (.v (.tup [.str u0, .str u1])) (.v (.int 0)) a4
    have s := sm u0
    generalize ((imgs ls u0).map fun w => (w.length : Int)).map D.int = L at *
    generalize ls.map D.str = V at *
    simp -implicitDefEqProofs [b_law_behind_due_2, c, s, m1]
  have b1 : ∀ a4 : Sl, b_law_behind_due_2 [.v (.tup [.str u0, .str u1]), .v (.tup (ls.map D.str)), .v (.int ((img ls u0).length : Int)), .v (.str u1), a4, .un] = .ok .nx [.v (.tup [.str u0, .str u1]), .v (.tup (ls.map D.str)), .v (.int (M : Int)), .v (.str u1), a4, .un] := fun a4 => by
    have c := bdue_comp hl hb h1 l1 (.v (.tup [.str u0, .str u1])) (.v (.int ((img ls u0).length : Int))) a4
    have s := sm u1
    generalize ((imgs ls u1).map fun w => (w.length : Int)).map D.int = L at *
    generalize ls.map D.str = V at *
    simp -implicitDefEqProofs [b_law_behind_due_2, c, s, m2]
  have k1 : forL (.n 3) [] b_law_behind_due_2 [.str u0, .str u1] [.v (.tup [.str u0, .str u1]), .v (.tup (ls.map D.str)), .v (.int 0), .un, .un, .un] = .ok .nx [.v (.tup [.str u0, .str u1]), .v (.tup (ls.map D.str)), .v (.int (M : Int)), .v (.str u1), .un, .un] := by
    rw [forL_nx (ρ1 := [.v (.tup [.str u0, .str u1]), .v (.tup (ls.map D.str)), .v (.int 0), .v (.str u0), .un, .un]) rfl (b0 .un)]
    simp only [wipe_nil]
    rw [forL_nx (ρ1 := [.v (.tup [.str u0, .str u1]), .v (.tup (ls.map D.str)), .v (.int ((img ls u0).length : Int)), .v (.str u1), .un, .un]) rfl (b1 .un)]
    rfl
  have rf := refused_ok 100
  by_cases c0 : (img ls u0).length ≤ 100
  · by_cases c1 : (img ls u1).length ≤ 100
    · have tl := told2_ok (w := []) (behind2_ok hl hb h0 h1 l0 l1 c0 c1)
      have g : ¬ (100 : Int) < (M : Int) := by omega
      have ea : opLen (.str (img ls u0)) = some (.int ((img ls u0).length : Int)) := opLen_str (by unfold line; omega)
      have eb : opLen (.str (img ls u1)) = some (.int ((img ls u1).length : Int)) := opLen_str (by unfold line; omega)
      have ml : opMaxL (.lst [.int ((img ls u0).length : Int), .int ((img ls u1).length : Int)]) = some (.int (M : Int)) := by
        simp only [opMaxL, intsD, Option.map_some, Option.bind_some, List.max?_cons', List.foldl_cons, List.foldl_nil]
        congr 2
        omega
      rw [s_law_behind_due, run_ap (by rfl)]
      generalize ((img ls u0).length : Int) = A at *
      generalize ((img ls u1).length : Int) = B at *
      generalize img ls u0 = AA at *
      generalize img ls u1 = BB at *
      generalize ls.map D.str = V at *
      simp -implicitDefEqProofs [g_law_behind_due, k1, itD, tl, g, opIx, at?, ixN, opIsI, eComp, compL, Tg.put, ea, eb, ml, opEq, D.lv, D.eqv, line, lent]
    · have tl := told2_rz (w := []) (behind2_rz1 hl hb h0 h1 l0 l1 c0 (by omega))
      have g : (100 : Int) < (M : Int) := by omega
      rw [s_law_behind_due, run_ap (by rfl)]
      generalize ls.map D.str = V at *
      simp -implicitDefEqProofs [g_law_behind_due, k1, itD, tl, g, opIx, at?, ixN, rf, lent]
  · have tl := told2_rz (w := []) (behind2_rz0 (u1 := u1) hl hb h0 l0 (by omega))
    have g : (100 : Int) < (M : Int) := by omega
    rw [s_law_behind_due, run_ap (by rfl)]
    generalize ls.map D.str = V at *
    simp -implicitDefEqProofs [g_law_behind_due, k1, itD, tl, g, opIx, at?, ixN, rf, lent]
theorem forL_rz {g : Tg} {ks : List Nat} {b : Es} {x : D} {r : List D} {ρ ρ1 ρ2 : Env} {e : Exn} (h1 : g.put x ρ = some ρ1) (h2 : b ρ1 = .rz e ρ2) : forL g ks b (x :: r) ρ = .rz e ρ2 := by
  rw [forL]; simp only [h1, h2]
theorem turned_loop {m b : Nat} {ws : List (List Nat)} (hr : IsR m b ws) (hm : m ≤ 4) (hb : b ≤ 1000000) {w : List Nat} (hw : IsW m w) (a2 : Sl) : ∀ (k j : Nat), (itr ws j w).length ≤ 20000 → 20000 < (itr ws (j + k) w).length →
    ∃ ρ', forL (.n 3) [3] b_turned_1 ((List.range' j k).map fun i : Nat => D.int (i : Int)) [.v (.tup (ws.map D.str)), .v (.str (itr ws j w)), a2, .un] = .rz ⟨7, [.int 20000]⟩ ρ'
  | 0, j, h1, h2 => by rw [Nat.add_zero] at h2; omega
  | k + 1, j, h1, h2 => by
    rw [List.range'_succ, List.map_cons]
    by_cases c : (itr ws (j + 1) w).length ≤ 20000
    · have im := image_ok hr hm (itr_w hr hw j) hb (by omega) (show (img ws (itr ws j w)).length ≤ 20000 from c)
      rw [show img ws (itr ws j w) = itr ws (j + 1) w from rfl] at im
      obtain ⟨ρ', ih⟩ := turned_loop hr hm hb hw a2 k (j + 1) c (by rw [show j + 1 + k = j + (k + 1) by omega]; exact h2)
      have bd : b_turned_1 [.v (.tup (ws.map D.str)), .v (.str (itr ws j w)), a2, .v (.int (j : Int))] = .ok .nx [.v (.tup (ws.map D.str)), .v (.str (itr ws (j + 1) w)), a2, .v (.int (j : Int))] := by
        generalize itr ws (j + 1) w = A at *
        generalize itr ws j w = B at *
        simp -implicitDefEqProofs [b_turned_1, im]
      rw [forL_nx (ρ1 := [.v (.tup (ws.map D.str)), .v (.str (itr ws j w)), a2, .v (.int (j : Int))]) rfl bd]
      exact ⟨ρ', ih⟩
    · have im := image_rz hr hm (itr_w hr hw j) hb (by omega) (show 20000 < (img ws (itr ws j w)).length from Nat.lt_of_not_le c)
      have bd : b_turned_1 [.v (.tup (ws.map D.str)), .v (.str (itr ws j w)), a2, .v (.int (j : Int))] = .rz ⟨7, [.int 20000]⟩ [.v (.tup (ws.map D.str)), .v (.str (itr ws j w)), a2, .v (.int (j : Int))] := by
        generalize itr ws j w = B at *
        simp -implicitDefEqProofs [b_turned_1, im]
      exact ⟨_, forL_rz (ρ1 := [.v (.tup (ws.map D.str)), .v (.str (itr ws j w)), a2, .v (.int (j : Int))]) rfl bd⟩
theorem turned_rz {m b : Nat} {ws : List (List Nat)} (hr : IsR m b ws) (hm : m ≤ 4) (hb : b ≤ 1000000) {w : List Nat} (hw : IsW m w) (t : Nat) (ht : t ≤ 1000) (hw2 : w.length ≤ 20000) (hs : 20000 < (itr ws t w).length) :
    s_turned [.v (.tup (ws.map D.str)), .v (.str w), .v (.int (t : Int))] = .rz ⟨7, [.int 20000]⟩ [.v (.tup (ws.map D.str)), .v (.str w), .v (.int (t : Int))] := by
  have r1 := inR_of (show (-1000000000 : Int) ≤ (t : Int) by omega) (by omega)
  obtain ⟨ρ', key⟩ := turned_loop hr hm hb hw (.v (.int (t : Int))) t 0 hw2 (by rw [Nat.zero_add]; exact hs)
  rw [show itr ws 0 w = w from rfl] at key
  have rn : rng 0 (t : Int) = (List.range' 0 t).map fun i : Nat => D.int (i : Int) := by
    have := rng_nat 0 t
    rw [Nat.sub_zero] at this
    simp only [Nat.zero_add] at this
    rw [show ((0 : Nat) : Int) = 0 from rfl] at this
    rw [this, List.range_eq_range']
  rw [s_turned, run_ap (by rfl)]
  simp -implicitDefEqProofs [g_turned, r1, rn, key, lent]
/-! the law's own turns -/
theorem first_no {P : Nat → Prop} : ∀ (k T : Nat), T ≤ k → ¬ P T → ∃ n, n ≤ T ∧ (∀ j, j < n → P j) ∧ ¬ P n
  | 0, T, hk, h => ⟨T, Nat.le_refl _, fun j hj => absurd hj (by omega), h⟩
  | k + 1, T, hk, h => by
    by_cases c : ∃ n, n < T ∧ ¬ P n
    · obtain ⟨n, h1, h2⟩ := c
      obtain ⟨n', h3, h4, h5⟩ := first_no k n (by omega) h2
      exact ⟨n', by omega, h4, h5⟩
    · exact ⟨T, Nat.le_refl _, fun j hj => Classical.byContradiction fun q => c ⟨j, hj, q⟩, h⟩
theorem itr_flat (ws : List (List Nat)) : ∀ (t : Nat) (w : List Nat), itr ws t w = (w.map fun c => itr ws t [c]).flatten
  | 0, w => by
    show w = (w.map fun c => [c]).flatten
    induction w with
    | nil => rfl
    | cons c r ih => rw [List.map_cons, List.flatten_cons, ← ih]; rfl
  | t + 1, w => by
    show img ws (itr ws t w) = _
    rw [itr_flat ws t w, img_flat, List.map_map]; rfl
theorem itr_img (ws : List (List Nat)) (w : List Nat) : ∀ t : Nat, itr ws t (img ws w) = itr ws (t + 1) w
  | 0 => rfl
  | t + 1 => by
    show img ws (itr ws t (img ws w)) = img ws (itr ws (t + 1) w)
    rw [itr_img ws w t]
theorem img_one (ws : List (List Nat)) (c : Nat) : img ws [c] = ws.getD (c - 97) [] := by
  unfold img imgs
  simp
def szs (m : Nat) (ws : List (List Nat)) (t : Nat) : List Int := (List.range m).map fun i => ((itr ws t [97 + i]).length : Int)
theorem szs_ix {m : Nat} {ws : List (List Nat)} {t c : Nat} (h0 : 97 ≤ c) (h1 : c < 97 + m) : opIx (.lst ((szs m ws t).map D.int)) (.int ((c - 97 : Nat) : Int)) = some (.int ((itr ws t [c]).length : Int)) := by
  rw [opIx_lst (by omega), Int.toNat_natCast, szs, List.map_map, List.getElem?_map, List.getElem?_range (by omega)]
  show some (D.int ((itr ws t [97 + (c - 97)]).length : Int)) = _
  rw [show 97 + (c - 97) = c by omega]
theorem size_ok {m : Nat} {ws : List (List Nat)} (hm : m ≤ 4) (t : Nat) {w : List Nat} (hw : IsW m w) (hl : w.length ≤ 1000) (r : D) :
    s_law_size [.v r, .v (.lst ((szs m ws t).map D.int)), .v (.str w)] = .ok (.v (.int ((itr ws t w).length : Int))) [.v r, .v (.lst ((szs m ws t).map D.int)), .v (.str w)] := by
  have c1 := eComp_go (g := .n 3) (ws := [3]) (it := iE (eV 2)) (f := x_law_size_1) (ρ := [.v r, .v (.lst ((szs m ws t).map D.int)), .v (.str w), .un]) (fun d => match d with | .str [c] => .int ((itr ws t [c]).length : Int) | d => d) (w.map fun c => D.str [c]) (by simp) (fun x hx => by
    obtain ⟨c, hc, rfl⟩ := List.mem_map.mp hx
    obtain ⟨h1, h2⟩ := hw c hc
    have no := abcd_no h1 h2 hm
    have ix := szs_ix (ws := ws) (t := t) h1 h2
    dsimp only
    generalize ((itr ws t [c]).length : Int) = q at *
    generalize (szs m ws t).map D.int = S at *
    generalize ((c - 97 : Nat) : Int) = cc at *
    simp -implicitDefEqProofs [x_law_size_1, no, ix]) (by rw [List.length_map]; unfold line; omega)
  have e1 : (w.map fun c => D.str [c]).map (fun d => match d with | .str [c] => D.int ((itr ws t [c]).length : Int) | d => d) = ((w.map fun c => itr ws t [c]).map fun w => (w.length : Int)).map D.int := by
    rw [List.map_map, List.map_map, List.map_map]; rfl
  rw [e1] at c1
  have e2 := sum_ok ((w.map fun c => itr ws t [c]).map fun w => (w.length : Int))
  rw [sumI, ← List.length_flatten, ← itr_flat] at e2
  rw [s_law_size, run_ap (by rfl)]
  generalize ((w.map fun c => itr ws t [c]).map fun w => (w.length : Int)).map D.int = L at *
  generalize (szs m ws t).map D.int = S at *
  simp -implicitDefEqProofs [g_law_size, c1, e2, lent]
theorem szs_next {m b : Nat} {ws : List (List Nat)} (hr : IsR m b ws) (t : Nat) : ws.map (fun w => ((itr ws t w).length : Int)) = szs m ws (t + 1) := by
  refine List.ext_getElem (by rw [List.length_map, szs, List.length_map, List.length_range, hr.len]) fun i h1 h2 => ?_
  rw [List.length_map] at h1
  simp only [szs, List.getElem_map, List.getElem_range]
  rw [← itr_img, img_one, show 97 + i - 97 = i by omega, List.getD_eq_getElem?_getD, List.getElem?_eq_getElem h1]; rfl
def bey (ws : List (List Nat)) (w : List Nat) : Nat → Nat
  | 0 => 0
  | t + 1 => bey ws w t + if 20000 < (itr ws (t + 1) w).length then 1 else 0
theorem frz_v : Sl.frz (.v d) = .v d := id rfl
theorem frz_o : Sl.frz (.o d) = .v d := id rfl
theorem frz_u : Sl.frz .un = .un := id rfl
theorem trule_ok (ns : List Int) (z m : Nat) (hm1 : 1 ≤ m) (hm2 : m ≤ 4) (a5 a6 a7 a8 a9 a10 a11 a12 : Sl) : ∃ ws : List (List Nat), IsR m 3 ws ∧ forL (.n 4) [4] b_law_many_turns_1 (rng 0 m) [.v (.scr (ns.map D.int)), .v (.int (z : Int)), .v (.int (m : Int)), .o (.lst []), .un, a5, a6, a7, a8, a9, a10, a11, a12] = .ok .nx [.v (.scr (ns.map D.int)), .v (.int (z : Int)), .v (.int (m : Int)), .o (.lst (ws.map D.str)), .un, a5, a6, a7, a8, a9, a10, a11, a12] := by
  obtain ⟨ρ', k1, ws, hw, hw2, rfl⟩ := forL_inv (g := .n 4) (ks := [4]) (b := b_law_many_turns_1) (fun i ρ => ∃ ws : List (List Nat), ws.length = i ∧ (∀ w ∈ ws, IsW m w ∧ 1 ≤ w.length ∧ w.length ≤ 3) ∧ ρ = [.v (.scr (ns.map D.int)), .v (.int (z : Int)), .v (.int (m : Int)), .o (.lst (ws.map D.str)), .un, a5, a6, a7, a8, a9, a10, a11, a12]) (rng 0 m) 0 [.v (.scr (ns.map D.int)), .v (.int (z : Int)), .v (.int (m : Int)), .o (.lst []), .un, a5, a6, a7, a8, a9, a10, a11, a12] ⟨[], rfl, by simp, rfl⟩ (fun j x ρ hx hI => by
    obtain ⟨ws, hl, hw, rfl⟩ := hI
    obtain ⟨rfl, hb⟩ := rng_get0 hx
    have c0 := cell_ok ns (4 + j)
    have m0 := mixN (cell ns (4 + j)) j (by omega)
    rw [Int.natCast_add, show ((4 : Nat) : Int) = 4 from rfl] at c0
    have z0 := mix_nn (cell ns (4 + j)) j
    have z1 := mix_lt (cell ns (4 + j)) j
    generalize mix (cell ns (4 + j)) j = y at m0 z0 z1
    have e1 : opDiv (.int (z : Int)) (.int (4 + (j : Int))) = some (.int ((z : Int) / (4 + (j : Int)))) := opDiv_int (by omega) (by omega)
    have h0 : 0 ≤ (z : Int) / (4 + (j : Int)) := Int.ediv_nonneg (by omega) (by omega)
    generalize (z : Int) / (4 + (j : Int)) = q at *
    have e2 : opMod (.int q) (.int 3) = some (.int (q % 3)) := opMod_int (by decide)
    obtain ⟨p, hp, hp1, hp2⟩ : ∃ p : Nat, 1 + q % 3 = (p : Int) ∧ 1 ≤ p ∧ p ≤ 3 := ⟨(1 + q % 3).toNat, by omega, by omega, by omega⟩
    obtain ⟨w, hw1, hw2, e3⟩ := word_ok y m p z0 (by omega) hm1 hm2 (by omega)
    refine ⟨_, [.v (.scr (ns.map D.int)), .v (.int (z : Int)), .v (.int (m : Int)), .o (.lst ((ws ++ [w]).map D.str)), .v (.int (j : Int)), a5, a6, a7, a8, a9, a10, a11, a12], rfl, .inl ?_, ws ++ [w], by simp [hl], fun v hv => ?_, by simp⟩
    · have e4 : ws.length < line := by unfold line; omega
      generalize q % 3 = q3 at *
      simp -implicitDefEqProofs [b_law_many_turns_1, c0, m0, e1, e2, hp, e3, chg, hAppend, e4]
    · rcases List.mem_append.mp hv with q | q
      · exact hw v q
      · rw [List.mem_singleton] at q
        subst q
        exact ⟨hw1, by omega, by omega⟩)
  exact ⟨ws, ⟨by rw [hw, rng_len]; omega, hw2⟩, k1⟩
theorem turn_body {m : Nat} {ws : List (List Nat)} (hr : IsR m 3 ws) (hm : m ≤ 4) {w : List Nat} (hw : IsW m w) (hl : w.length ≤ 10) (sc : D) (z : Int) (t : Nat) :
    b_law_many_turns_4 [.v sc, .v (.int z), .v (.int (m : Int)), .v (.lst (ws.map D.str)), .un, .v (.str w), .v (.lst ((szs m ws t).map D.int)), .v (.int (t : Int)), .v (.int (bey ws w t : Int)), .un, .un, .un, .un] = .ok .nx [.v sc, .v (.int z), .v (.int (m : Int)), .v (.lst (ws.map D.str)), .un, .v (.str w), .v (.lst ((szs m ws (t + 1)).map D.int)), .v (.int ((t + 1 : Nat) : Int)), .v (.int (bey ws w (t + 1) : Int)), .un, .un, .un, .un] := by
  have c1 := eComp_go (g := .n 12) (ws := [12]) (it := iE (eV 3)) (f := x_law_many_turns_2) (ρ := [.v sc, .v (.int z), .v (.int (m : Int)), .v (.lst (ws.map D.str)), .un, .v (.str w), .v (.lst ((szs m ws t).map D.int)), .v (.int (t : Int)), .v (.int (bey ws w t : Int)), .un, .un, .un, .un]) (fun d => match d with | .str v => .int ((itr ws t v).length : Int) | d => d) (ws.map D.str) (by simp) (fun x hx => by
    obtain ⟨v, hv, rfl⟩ := List.mem_map.mp hx
    obtain ⟨h1, h2, h3⟩ := hr.ok v hv
    have so := size_ok (ws := ws) hm t h1 (by omega) (.lst (ws.map D.str))
    dsimp only
    generalize ((itr ws t v).length : Int) = q at *
    generalize (szs m ws t).map D.int = S at *
    generalize ws.map D.str = R at *
    generalize (bey ws w t : Int) = bb at *
    simp -implicitDefEqProofs [x_law_many_turns_2, so]) (by rw [List.length_map, hr.len]; unfold line; omega)
  have e1 : (ws.map D.str).map (fun d => match d with | .str v => D.int ((itr ws t v).length : Int) | d => d) = (szs m ws (t + 1)).map D.int := by
    rw [← szs_next hr, List.map_map, List.map_map]; rfl
  rw [e1] at c1
  have so := size_ok (ws := ws) hm (t + 1) hw (by omega) (.lst (ws.map D.str))
  have eb : (bey ws w (t + 1) : Int) = (bey ws w t : Int) + (if (20000 : Int) < ((itr ws (t + 1) w).length : Int) then 1 else 0) := by
    rw [bey]
    by_cases h : 20000 < (itr ws (t + 1) w).length
    · rw [if_pos h, if_pos (by omega)]; omega
    · rw [if_neg h, if_neg (by omega)]; omega
  have et : ((t + 1 : Nat) : Int) = (t : Int) + 1 := by omega
  rw [eb, et]
  have og : opGt (.int ((itr ws (t + 1) w).length : Int)) (.int 20000) = some (.bl (decide ((20000 : Int) < ((itr ws (t + 1) w).length : Int)))) := rfl
  generalize ((itr ws (t + 1) w).length : Int) = q at *
  have oi : opInt (.bl (decide ((20000 : Int) < q))) = some (.int (if (20000 : Int) < q then 1 else 0)) := by
    by_cases h : (20000 : Int) < q <;> simp [opInt, h]
  generalize (if (20000 : Int) < q then (1 : Int) else 0) = one at *
  generalize decide ((20000 : Int) < q) = B at *
  generalize (szs m ws (t + 1)).map D.int = S1 at *
  generalize (szs m ws t).map D.int = S0 at *
  generalize ws.map D.str = R at *
  generalize (bey ws w t : Int) = bb at *
  simp -implicitDefEqProofs [b_law_many_turns_4, c1, frz1, so, og, oi, Sl.frz, D.flat, -Int.natCast_add]
theorem many_turns_ok (ns : List Int) : s_law_many_turns [.v (.scr (ns.map D.int))] = .ok (.v (.bl true)) [.v (.scr (ns.map D.int))] := by
  have c3 := cell_ok ns 3
  have m3 := mixN (cell ns 3) 3 (by decide)
  have z30 := mix_nn (cell ns 3) 3
  have z31 := mix_lt (cell ns 3) 3
  have c8 := cell_ok ns 8
  have m8 := mixN (cell ns 8) 8 (by decide)
  have z80 := mix_nn (cell ns 8) 8
  have z81 := mix_lt (cell ns 8) 8
  rw [show ((3 : Nat) : Int) = 3 from rfl] at c3 m3
  rw [show ((8 : Nat) : Int) = 8 from rfl] at c8 m8
  generalize mix (cell ns 8) 8 = y at *
  obtain ⟨z, hz⟩ : ∃ z : Nat, mix (cell ns 3) 3 = (z : Int) := ⟨(mix (cell ns 3) 3).toNat, by omega⟩
  rw [hz] at m3 z31
  have q1 : opMod (.int (z : Int)) (.int 3) = some (.int ((z % 3 : Nat) : Int)) := by rw [opMod_int (by decide)]; rfl
  obtain ⟨m, hm, hm1, hm2⟩ : ∃ m : Nat, (2 : Int) + ((z % 3 : Nat) : Int) = (m : Int) ∧ 1 ≤ m ∧ m ≤ 4 := ⟨2 + z % 3, by omega, by omega, by omega⟩
  generalize ((z % 3 : Nat) : Int) = zm at *
  have im := inR_of (show (-1000000000 : Int) ≤ m by omega) (by omega)
  have d64 : opDiv (.int (z : Int)) (.int 64) = some (.int ((z : Int) / 64)) := opDiv_int (by decide) (by decide)
  have q6 : opMod (.int ((z : Int) / 64)) (.int 6) = some (.int ((z : Int) / 64 % 6)) := opMod_int (by decide)
  obtain ⟨p, hp, hp2⟩ : ∃ p : Nat, (z : Int) / 64 % 6 = (p : Int) ∧ p ≤ 5 := ⟨((z : Int) / 64 % 6).toNat, by omega, by omega⟩
  have d512 : opDiv (.int (z : Int)) (.int 512) = some (.int ((z : Int) / 512)) := opDiv_int (by decide) (by decide)
  have q39 : opMod (.int ((z : Int) / 512)) (.int 39) = some (.int ((z : Int) / 512 % 39)) := opMod_int (by decide)
  obtain ⟨T1, hT1, hT1b⟩ : ∃ T : Nat, 2 + (z : Int) / 512 % 39 = (T : Int) ∧ T ≤ 40 := ⟨(2 + (z : Int) / 512 % 39).toNat, by omega, by omega⟩
  have d8 : opDiv (.int (z : Int)) (.int 8) = some (.int ((z : Int) / 8)) := opDiv_int (by decide) (by decide)
  have q38 : opMod (.int ((z : Int) / 8)) (.int 3) = some (.int ((z : Int) / 8 % 3)) := opMod_int (by decide)
  obtain ⟨T2, hT2⟩ : ∃ T : Nat, 1 + (z : Int) / 8 % 3 = (T : Int) := ⟨(1 + (z : Int) / 8 % 3).toNat, by omega⟩
  obtain ⟨w, hw1, hw2, ew⟩ := word_ok y m p z80 (by omega) hm1 hm2 (by omega)
  generalize (z : Int) / 64 % 6 = z6 at *
  generalize (z : Int) / 64 = z64 at *
  generalize (z : Int) / 512 % 39 = z39 at *
  generalize (z : Int) / 512 = z512 at *
  generalize (z : Int) / 8 % 3 = z83 at *
  generalize (z : Int) / 8 = z8 at *
  obtain ⟨ws, hr, k1⟩ := trule_ok ns z m hm1 hm2 .un .un .un .un .un .un .un .un
  have cs := eComp_go (g := .n 12) (ws := [12]) (it := iE (eV 3)) (f := eC (.int 1)) (ρ := [.v (.scr (ns.map D.int)), .v (.int (z : Int)), .v (.int (m : Int)), .v (.lst (ws.map D.str)), .un, .v (.str w), .un, .un, .un, .un, .un, .un, .un]) (fun _ => .int 1) (ws.map D.str) (by simp) (fun x hx => by
    generalize ws.map D.str = R at *
    simp) (by rw [List.length_map, hr.len]; unfold line; omega)
  have es : (ws.map D.str).map (fun _ => D.int 1) = (szs m ws 0).map D.int := by
    refine List.ext_getElem (by rw [List.length_map, List.length_map, List.length_map, szs, List.length_map, List.length_range, hr.len]) fun i h1 h2 => ?_
    simp only [szs, List.getElem_map, List.getElem_range]
    rfl
  rw [es] at cs
  obtain ⟨n, n1, n2, n3⟩ := first_no (P := fun t => t < T1 ∧ bey ws w t < T2) T1 T1 (Nat.le_refl _) (fun q => absurd q.1 (by omega))
  have cond : ∀ (t : Nat) (a6 : D), c_law_many_turns_3 [.v (.scr (ns.map D.int)), .v (.int (z : Int)), .v (.int (m : Int)), .v (.lst (ws.map D.str)), .un, .v (.str w), .v a6, .v (.int (t : Int)), .v (.int (bey ws w t : Int)), .un, .un, .un, .un] = .ok (.bl (decide (t < T1 ∧ bey ws w t < T2))) [.v (.scr (ns.map D.int)), .v (.int (z : Int)), .v (.int (m : Int)), .v (.lst (ws.map D.str)), .un, .v (.str w), .v a6, .v (.int (t : Int)), .v (.int (bey ws w t : Int)), .un, .un, .un, .un] := fun t a6 => by
    generalize ns.map D.int = NS at *
    generalize ws.map D.str = R at *
    generalize bey ws w t = bb at *
    by_cases h1 : t < T1
    · have h1' : (t : Int) < (T1 : Int) := by omega
      by_cases h2 : bb < T2
      · have h2' : (bb : Int) < (T2 : Int) := by omega
        simp -implicitDefEqProofs [c_law_many_turns_3, d512, q39, hT1, d8, q38, hT2, h1, h1', h2, h2']
      · have h2' : ¬ (bb : Int) < (T2 : Int) := by omega
        simp -implicitDefEqProofs [c_law_many_turns_3, d512, q39, hT1, d8, q38, hT2, h1, h1', h2, h2']
    · have h1' : ¬ (t : Int) < (T1 : Int) := by omega
      simp -implicitDefEqProofs [c_law_many_turns_3, d512, q39, hT1, d8, q38, hT2, h1, h1']
  have kw := whileL_at (ks := []) (c := c_law_many_turns_3) (b := b_law_many_turns_4) (fun t => [.v (.scr (ns.map D.int)), .v (.int (z : Int)), .v (.int (m : Int)), .v (.lst (ws.map D.str)), .un, .v (.str w), .v (.lst ((szs m ws t).map D.int)), .v (.int (t : Int)), .v (.int (bey ws w t : Int)), .un, .un, .un, .un]) n (fun t ht => by
    have c := cond t (.lst ((szs m ws t).map D.int))
    rw [decide_eq_true (n2 t ht)] at c
    exact c) (fun t ht => ⟨_, .inl (turn_body hr hm2 hw1 (by omega) (.scr (ns.map D.int)) z t), rfl⟩) (by
    have c := cond n (.lst ((szs m ws n).map D.int))
    rw [decide_eq_false n3] at c
    exact c) (by omega)
  rw [show ((0 : Nat) : Int) = 0 from rfl, show (bey ws w 0 : Int) = 0 from rfl] at kw
  have so := size_ok (ws := ws) hm2 n hw1 (by omega) (.lst (ws.map D.str))
  by_cases hs : (itr ws n w).length ≤ 20000
  · have tu := turned_ok hr hm2 (by decide) hw1 n (by omega) (by omega) hs
    have du := due_ok 20000 (q := (itr ws n w).length) (w := itr ws n w) (by omega) rfl (by omega)
    generalize itr ws n w = A at *
    generalize ws.map D.str = R at *
    generalize (szs m ws n).map D.int = S1 at *
    generalize (szs m ws 0).map D.int = S0 at *
    generalize ns.map D.int = NS at *
    generalize (bey ws w n : Int) = bb at *
    have ot : opTuple (.lst R) = some (.tup R) := rfl
    have tt : sTryK 11 9 (sSet 10 (eFrz 3 (val (eCall s_turned (aCons (e1 opTuple (eV 3)) (aCons (eV 5) (aCons (eV 7) aNil))))))) [.v (.scr NS), .v (.int (z : Int)), .v (.int (m : Int)), .v (.lst R), .un, .v (.str w), .v (.lst S1), .v (.int (n : Int)), .v (.int bb), .v .non, .v .non, .un, .un] = .ok .nx [.v (.scr NS), .v (.int (z : Int)), .v (.int (m : Int)), .v (.lst R), .un, .v (.str w), .v (.lst S1), .v (.int (n : Int)), .v (.int bb), .v .non, .v (.str A), .un, .un] := sTryK_nx (by simp -implicitDefEqProofs [frz1, ot, tu])
    rw [s_law_many_turns, run_ap (by rfl)]
    simp -implicitDefEqProofs [g_law_many_turns, c3, m3, hz, q1, hm, im, k1, c8, m8, d64, q6, hp, ew, frz1, cs, sWhile, kw, tt, so, du, Sl.frz, D.flat, lent, line]
  · have tu := turned_rz hr hm2 (by decide) hw1 n (by omega) (by omega) (by omega)
    have du := due_rz 20000 (q := ((itr ws n w).length : Int)) (by omega)
    generalize itr ws n w = A at *
    generalize ws.map D.str = R at *
    generalize (szs m ws n).map D.int = S1 at *
    generalize (szs m ws 0).map D.int = S0 at *
    generalize ns.map D.int = NS at *
    generalize (bey ws w n : Int) = bb at *
    have ot : opTuple (.lst R) = some (.tup R) := rfl
    have tt : sTryK 11 9 (sSet 10 (eFrz 3 (val (eCall s_turned (aCons (e1 opTuple (eV 3)) (aCons (eV 5) (aCons (eV 7) aNil))))))) [.v (.scr NS), .v (.int (z : Int)), .v (.int (m : Int)), .v (.lst R), .un, .v (.str w), .v (.lst S1), .v (.int (n : Int)), .v (.int bb), .v .non, .v .non, .un, .un] = .ok .nx [.v (.scr NS), .v (.int (z : Int)), .v (.int (m : Int)), .v (.lst R), .un, .v (.str w), .v (.lst S1), .v (.int (n : Int)), .v (.int bb), .v (.exc 7 [.int 20000]), .v .non, .un, .un] := sTryK_rz (x := ⟨7, [.int 20000]⟩) (ρ' := [.v (.scr NS), .v (.int (z : Int)), .v (.int (m : Int)), .v (.lst R), .un, .v (.str w), .v (.lst S1), .v (.int (n : Int)), .v (.int bb), .v .non, .v .non, .un, .un]) (by simp -implicitDefEqProofs [frz1, ot, tu])
    rw [s_law_many_turns, run_ap (by rfl)]
    simp -implicitDefEqProofs [g_law_many_turns, c3, m3, hz, q1, hm, im, k1, c8, m8, d64, q6, hp, ew, frz1, cs, sWhile, kw, tt, so, du, Sl.frz, D.flat, lent, line]
theorem rep_a (n c : Nat) : (List.replicate n [c]).flatten = List.replicate n c := by
  induction n with
  | zero => rfl
  | succ n ih => rw [List.replicate_succ, List.flatten_cons, ih, List.replicate_succ]; rfl
theorem mul_a {c n : Nat} (hn : n < 1000000) : opMul (.str [c]) (.int (n : Int)) = some (.str (List.replicate n c)) := by
  rw [opMul, if_pos ⟨by omega, by omega, by rw [Int.toNat_natCast, List.length_singleton]; unfold line; omega⟩, Int.toNat_natCast, rep_a]
theorem isW_rep {m n c : Nat} (h0 : 97 ≤ c) (h1 : c < 97 + m) : IsW m (List.replicate n c) := fun d hd => by
  rw [List.eq_of_mem_replicate hd]; exact ⟨h0, h1⟩
theorem isW_app {m : Nat} {u v : List Nat} (hu : IsW m u) (hv : IsW m v) : IsW m (u ++ v) := fun c hc => by
  rcases List.mem_append.mp hc with h | h
  · exact hu c h
  · exact hv c h
theorem img_rep (ws : List (List Nat)) (n c : Nat) : (img ws (List.replicate n c)).length = n * (ws.getD (c - 97) []).length := by
  rw [img_sum, imgs, List.map_replicate, List.map_replicate, List.sum_replicate_nat]
theorem img_app2 (ws : List (List Nat)) (u v : List Nat) : img ws (u ++ v) = img ws u ++ img ws v := by
  rw [img, imgs, List.map_append, List.flatten_append]; rfl
theorem isR_2 {b : Nat} {u v : List Nat} (h0 : IsW 2 u) (h1 : IsW 2 v) (a0 : 1 ≤ u.length) (a1 : 1 ≤ v.length) (l0 : u.length ≤ b) (l1 : v.length ≤ b) : IsR 2 b [u, v] := ⟨rfl, fun w hw => by
  have : w = u ∨ w = v := by simpa using hw
  rcases this with rfl | rfl
  · exact ⟨h0, a0, l0⟩
  · exact ⟨h1, a1, l1⟩⟩
theorem ways_ok {ws : List (List Nat)} (hr : IsR 2 100 ws) {w : List Nat} (hw : IsW 2 w) (hl : w.length ≤ 20000) {q : Nat} (hq : (img ws w).length = q) (l : D) (wy : Nat) (hwy : wy < 2) : ∃ t : D, s_law_told [.v (.int (wy : Int)), .v (.tup (ws.map D.str)), .v (.str w), .v l] = .ok (.v t) [.v (.int (wy : Int)), .v (.tup (ws.map D.str)), .v (.str w), .v l] ∧
    s_law_due [.v t, .v (.int (q : Int)), .v (.int 20000)] = .ok (.v (.bl true)) [.v t, .v (.int (q : Int)), .v (.int 20000)] := by
  have w01 : wy = 0 ∨ wy = 1 := by omega
  by_cases hs : q ≤ 20000
  · refine ⟨.lst [.str (img ws w), .non], ?_, due_ok 20000 (q := q) (w := img ws w) (by omega) hq (by omega)⟩
    rcases w01 with rfl | rfl
    · exact told0_ok (image_ok hr (by decide) hw (by decide) (by omega) (by omega))
    · exact told1_ok (turned_ok hr (by decide) (by decide) hw 1 (by decide) hl (by show (img ws w).length ≤ _; omega))
  · refine ⟨.lst [.non, .exc 7 [.int 20000]], ?_, due_rz 20000 (q := (q : Int)) (by omega)⟩
    rcases w01 with rfl | rfl
    · exact told0_rz (image_rz hr (by decide) hw (by decide) (by omega) (by omega))
    · exact told1_rz (turned_rz hr (by decide) (by decide) hw 1 (by decide) hl (by show 20000 < (img ws w).length; omega))
theorem max2_0 (a : Int) : opMax2 (.int 0) (.int a) = some (.int (a.toNat : Int)) := by
  have e : (if a > 0 then a else 0) = (a.toNat : Int) := by split <;> omega
  rw [opMax2, e]
theorem max2_1 (k : Int) (hk : k ≤ 100) : ∃ n : Nat, opMax2 (.int 1) (.int k) = some (.int (n : Int)) ∧ 1 ≤ n ∧ n ≤ 100 := by
  obtain ⟨n, hn, h1, h2⟩ : ∃ n : Nat, (if k > 1 then k else 1) = (n : Int) ∧ 1 ≤ n ∧ n ≤ 100 := ⟨(if k > 1 then k else 1).toNat, by split <;> omega, by split <;> omega, by split <;> omega⟩
  exact ⟨n, by rw [opMax2, hn], h1, h2⟩
theorem fst_rz : opMost [7] (.exc 7 [.non]) = some .non := by simp [opMost]
theorem law_holds (ns : List Int) (hl : ns.length ≤ 63) : ∃ as, s_law [.v (.scr (ns.map D.int))] = .ok (.v (.bl true)) as := by
  have c0 := cell_ok ns 0
  have m0 := mixN (cell ns 0) 0 (by decide)
  have z00 := mix_nn (cell ns 0) 0
  have z01 := mix_lt (cell ns 0) 0
  have c1 := cell_ok ns 1
  have m1 := mixN (cell ns 1) 1 (by decide)
  have z10 := mix_nn (cell ns 1) 1
  have z11 := mix_lt (cell ns 1) 1
  have c2 := cell_ok ns 2
  have m2 := mixN (cell ns 2) 2 (by decide)
  have z20 := mix_nn (cell ns 2) 2
  have z21 := mix_lt (cell ns 2) 2
  rw [show ((0 : Nat) : Int) = 0 from rfl] at c0 m0
  rw [show ((1 : Nat) : Int) = 1 from rfl] at c1 m1
  rw [show ((2 : Nat) : Int) = 2 from rfl] at c2 m2
  generalize mix (cell ns 1) 1 = y1 at *
  generalize mix (cell ns 2) 2 = y2 at *
  generalize mix (cell ns 0) 0 = z at *
  have q1 : opMod (.int z) (.int 100) = some (.int (z % 100)) := opMod_int (by decide)
  obtain ⟨ot, hot, ot1, ot2⟩ : ∃ n : Nat, 1 + z % 100 = (n : Int) ∧ 1 ≤ n ∧ n ≤ 100 := ⟨(1 + z % 100).toNat, by omega, by omega, by omega⟩
  obtain ⟨u, u1, u2, eu⟩ := word_ok y1 2 100 z10 (by omega) (by decide) (by decide) (by decide)
  obtain ⟨v, v1, v2, ev⟩ := word_ok z 2 ot z00 (by omega) (by decide) (by decide) (by omega)
  rw [show ((2 : Nat) : Int) = 2 from rfl] at eu ev
  rw [show ((100 : Nat) : Int) = 100 from rfl] at eu
  have d100 : opDiv (.int z) (.int 100) = some (.int (z / 100)) := opDiv_int (by decide) (by decide)
  have q10 : opMod (.int (z / 100)) (.int 10) = some (.int (z / 100 % 10)) := opMod_int (by decide)
  obtain ⟨mn, hmn, mn1, mn2⟩ : ∃ n : Nat, 190 + z / 100 % 10 = (n : Int) ∧ 190 ≤ n ∧ n ≤ 199 := ⟨(190 + z / 100 % 10).toNat, by omega, by omega, by omega⟩
  have e1 : opMul (.int 100) (.int (mn : Int)) = some (.int (100 * (mn : Int))) := opMul_int (by decide) (by omega)
  have dl : opDiv (.int (20000 - 100 * (mn : Int))) (.int (ot : Int)) = some (.int ((20000 - 100 * (mn : Int)) / (ot : Int))) := opDiv_int (by omega) (by omega)
  obtain ⟨lf, hlf, lf1⟩ : ∃ n : Nat, (20000 - 100 * (mn : Int)) / (ot : Int) = (n : Int) ∧ n ≤ 1000 := by
    have a0 : 0 ≤ (20000 - 100 * (mn : Int)) / (ot : Int) := Int.ediv_nonneg (by omega) (by omega)
    have a1 : (20000 - 100 * (mn : Int)) / (ot : Int) ≤ 20000 - 100 * (mn : Int) := Int.ediv_le_self _ (by omega)
    exact ⟨((20000 - 100 * (mn : Int)) / (ot : Int)).toNat, by omega, by omega⟩
  have d1000 : opDiv (.int z) (.int 1000) = some (.int (z / 1000)) := opDiv_int (by decide) (by decide)
  have q6 : opMod (.int (z / 1000)) (.int 6) = some (.int (z / 1000 % 6)) := opMod_int (by decide)
  have neg1 : opNeg (.int 1) = some (.int (-1)) := rfl
  obtain ⟨ex, hex, ex1, ex2⟩ : ∃ e : Int, opIx (.lst [.int 0, .int 1, .int 0, .int 2, .int (-1), .int 40]) (.int (z / 1000 % 6)) = some (.int e) ∧ -1 ≤ e ∧ e ≤ 40 := by
    have h : z / 1000 % 6 = 0 ∨ z / 1000 % 6 = 1 ∨ z / 1000 % 6 = 2 ∨ z / 1000 % 6 = 3 ∨ z / 1000 % 6 = 4 ∨ z / 1000 % 6 = 5 := by omega
    rcases h with h | h | h | h | h | h <;> rw [h]
    · exact ⟨0, by rw [opIx_lst (by decide)]; rfl, by decide, by decide⟩
    · exact ⟨1, by rw [opIx_lst (by decide)]; rfl, by decide, by decide⟩
    · exact ⟨0, by rw [opIx_lst (by decide)]; rfl, by decide, by decide⟩
    · exact ⟨2, by rw [opIx_lst (by decide)]; rfl, by decide, by decide⟩
    · exact ⟨-1, by rw [opIx_lst (by decide)]; rfl, by decide, by decide⟩
    · exact ⟨40, by rw [opIx_lst (by decide)]; rfl, by decide, by decide⟩
  obtain ⟨ct, hct, ct1⟩ : ∃ n : Nat, opMax2 (.int 0) (.int ((lf : Int) + ex)) = some (.int (n : Int)) ∧ n ≤ 1040 := ⟨_, max2_0 _, by omega⟩
  have ma := mul_a (c := 97) (n := mn) (by omega)
  have mb := mul_a (c := 98) (n := ct) (by omega)
  have ad : opAdd (.str (List.replicate mn 97)) (.str (List.replicate ct 98)) = some (.str (List.replicate mn 97 ++ List.replicate ct 98)) := opAdd_str (by rw [List.length_replicate, List.length_replicate]; unfold line; omega)
  have wW : IsW 2 (List.replicate mn 97 ++ List.replicate ct 98) := isW_app (isW_rep (by decide) (by decide)) (isW_rep (by decide) (by decide))
  have wl : (List.replicate mn 97 ++ List.replicate ct 98).length = mn + ct := by rw [List.length_append, List.length_replicate, List.length_replicate]
  have hr : IsR 2 100 [u, v] := isR_2 u1 v1 (by omega) (by omega) (by omega) (by omega)
  have hq : (img [u, v] (List.replicate mn 97 ++ List.replicate ct 98)).length = 100 * mn + ot * ct := by
    rw [img_app2, List.length_append, img_rep, img_rep]
    show mn * u.length + ct * v.length = _
    rw [u2, v2, Nat.mul_comm, Nat.mul_comm ct]
  have ol : opLen (.str (List.replicate mn 97 ++ List.replicate ct 98)) = some (.int ((mn + ct : Nat) : Int)) := by rw [opLen_str (by rw [wl]; unfold line; omega), wl]
  have e2 : ((mn + ct : Nat) : Int) - (mn : Int) = (ct : Int) := by omega
  have e3 : opMul (.int (ot : Int)) (.int (ct : Int)) = some (.int ((ot : Int) * (ct : Int))) := opMul_int (by omega) (by omega)
  have e4 : 100 * (mn : Int) + (ot : Int) * (ct : Int) = ((100 * mn + ot * ct : Nat) : Int) := by rw [Int.natCast_add, Int.natCast_mul, Int.natCast_mul]; rfl
  have ways := fun wy hwy => ways_ok hr wW (by rw [wl]; omega) hq (.tup ([u, v].map D.str)) wy hwy
  obtain ⟨t0, t01, t02⟩ := ways 0 (by decide)
  obtain ⟨t1, t11, t12⟩ := ways 1 (by decide)
  rw [show ((0 : Nat) : Int) = 0 from rfl] at t01
  rw [show ((1 : Nat) : Int) = 1 from rfl] at t11
  -- behind
  have q20 : opMod (.int y2) (.int 20) = some (.int (y2 % 20)) := opMod_int (by decide)
  obtain ⟨st, hst, st1, st2⟩ : ∃ n : Nat, 1 + y2 % 20 = (n : Int) ∧ 1 ≤ n ∧ n ≤ 20 := ⟨(1 + y2 % 20).toNat, by omega, by omega, by omega⟩
  have d6000 : opDiv (.int z) (.int 6000) = some (.int (z / 6000)) := opDiv_int (by decide) (by decide)
  have q620 : opMod (.int (z / 6000)) (.int 20) = some (.int (z / 6000 % 20)) := opMod_int (by decide)
  obtain ⟨lt, hlt, lt1, lt2⟩ : ∃ n : Nat, 1 + z / 6000 % 20 = (n : Int) ∧ 1 ≤ n ∧ n ≤ 20 := ⟨(1 + z / 6000 % 20).toNat, by omega, by omega, by omega⟩
  have dn : opDiv (.int 100) (.int (st : Int)) = some (.int (100 / (st : Int))) := opDiv_int (by omega) (by omega)
  have d2 : opDiv (.int z) (.int 200000) = some (.int (z / 200000)) := opDiv_int (by decide) (by decide)
  have q4 : opMod (.int (z / 200000)) (.int 4) = some (.int (z / 200000 % 4)) := opMod_int (by decide)
  obtain ⟨ey, hey⟩ : ∃ e : Int, opIx (.lst [.int 0, .int 1, .int 0, .int (-1)]) (.int (z / 200000 % 4)) = some (.int e) := by
    have h : z / 200000 % 4 = 0 ∨ z / 200000 % 4 = 1 ∨ z / 200000 % 4 = 2 ∨ z / 200000 % 4 = 3 := by omega
    rcases h with h | h | h | h <;> rw [h]
    · exact ⟨0, by rw [opIx_lst (by decide)]; rfl⟩
    · exact ⟨1, by rw [opIx_lst (by decide)]; rfl⟩
    · exact ⟨0, by rw [opIx_lst (by decide)]; rfl⟩
    · exact ⟨-1, by rw [opIx_lst (by decide)]; rfl⟩
  generalize 100 / (st : Int) = z100 at *
  obtain ⟨k1, hk1, hk2⟩ : ∃ k : Int, opMin2 (.int 100) (.int (z100 + ey)) = some (.int k) ∧ k ≤ 100 := ⟨_, rfl, by split <;> omega⟩
  obtain ⟨fs, hfs, fs1, fs2⟩ : ∃ n : Nat, opMax2 (.int 1) (.int k1) = some (.int (n : Int)) ∧ 1 ≤ n ∧ n ≤ 100 := max2_1 k1 hk2
  have ms := mul_a (c := 97) (n := st) (by omega)
  have mt := mul_a (c := 98) (n := lt) (by omega)
  have mf := mul_a (c := 97) (n := fs) (by omega)
  have wba : IsW 2 [98, 97] := fun c hc => by
    have : c = 98 ∨ c = 97 := by simpa using hc
    omega
  have hlate : IsR 2 100 [List.replicate st 97, List.replicate lt 98] := isR_2 (isW_rep (by decide) (by decide)) (isW_rep (by decide) (by decide)) (by rw [List.length_replicate]; omega) (by rw [List.length_replicate]; omega) (by rw [List.length_replicate]; omega) (by rw [List.length_replicate]; omega)
  have hfirst : IsR 2 100 [List.replicate fs 97, [98, 97]] := isR_2 (isW_rep (by decide) (by decide)) wba (by rw [List.length_replicate]; omega) (by decide) (by rw [List.length_replicate]; omega) (by decide)
  have b1 := behind_due_ok (a := 0) hlate (by decide) (u0 := List.replicate fs 97) (u1 := [98, 97]) (isW_rep (by decide) (by decide)) wba (by rw [List.length_replicate]; omega) (by decide)
  have b2 := behind_due_ok (a := 0) hfirst (by decide) (u0 := List.replicate st 97) (u1 := List.replicate lt 98) (isW_rep (by decide) (by decide)) (isW_rep (by decide) (by decide)) (by rw [List.length_replicate]; omega) (by rw [List.length_replicate]; omega)
  simp only [List.map_cons, List.map_nil] at b1 b2 t01 t11
  have mt2 := many_turns_ok ns
  have mo1 := isZ4 (.int z)
  have mo0 := fst_rz
  have eqz : opEq (.int z) (.int z) = some (.bl true) := by simp [opEq, D.lv, D.eqv]
  rw [← e4] at t02 t12
  generalize hsz : (100 * (mn : Int) + (ot : Int) * (ct : Int)) = sz at *
  generalize List.replicate mn 97 ++ List.replicate ct 98 = W at *
  generalize List.replicate mn 97 = Wa at *
  generalize List.replicate ct 98 = Wb at *
  generalize List.replicate st 97 = Ws at *
  generalize List.replicate lt 98 = Wt at *
  generalize List.replicate fs 97 = Wf at *
  generalize z / 1000 % 6 = z6 at *
  generalize z / 1000 = z1000 at *
  generalize z / 100 % 10 = zz10 at *
  generalize z / 100 = zz100 at *
  generalize z / 6000 % 20 = z620 at *
  generalize z / 6000 = z6000 at *
  generalize z / 200000 % 4 = z24 at *
  generalize z / 200000 = z2 at *
  generalize z % 100 = zm at *
  generalize y2 % 20 = ym at *
  generalize ns.map D.int = NS at *
  generalize (20000 - 100 * (mn : Int)) / (ot : Int) = lff at *
  subst hlf
  have kl : forL (.n 8) [8] b_law_1 [.int 0, .int 1] [.v (.scr NS), .v (.int z), .v (.int (ot : Int)), .v (.tup [.str u, .str v]), .v (.int (mn : Int)), .v (.int (lf : Int)), .v (.str W), .v (.int sz), .un, .un, .un, .un, .un, .un] = .ok .nx [.v (.scr NS), .v (.int z), .v (.int (ot : Int)), .v (.tup [.str u, .str v]), .v (.int (mn : Int)), .v (.int (lf : Int)), .v (.str W), .v (.int sz), .un, .un, .un, .un, .un, .un] := by
    have s0 : b_law_1 [.v (.scr NS), .v (.int z), .v (.int (ot : Int)), .v (.tup [.str u, .str v]), .v (.int (mn : Int)), .v (.int (lf : Int)), .v (.str W), .v (.int sz), .v (.int 0), .un, .un, .un, .un, .un] = .ok .nx [.v (.scr NS), .v (.int z), .v (.int (ot : Int)), .v (.tup [.str u, .str v]), .v (.int (mn : Int)), .v (.int (lf : Int)), .v (.str W), .v (.int sz), .v (.int 0), .un, .un, .un, .un, .un] := by
      simp -implicitDefEqProofs [b_law_1, t01, t02]
    have s1 : b_law_1 [.v (.scr NS), .v (.int z), .v (.int (ot : Int)), .v (.tup [.str u, .str v]), .v (.int (mn : Int)), .v (.int (lf : Int)), .v (.str W), .v (.int sz), .v (.int 1), .un, .un, .un, .un, .un] = .ok .nx [.v (.scr NS), .v (.int z), .v (.int (ot : Int)), .v (.tup [.str u, .str v]), .v (.int (mn : Int)), .v (.int (lf : Int)), .v (.str W), .v (.int sz), .v (.int 1), .un, .un, .un, .un, .un] := by
      simp -implicitDefEqProofs [b_law_1, t11, t12]
    rw [forL_nx rfl s0]
    simp only [wipe_cons, wipe_nil, List.set_cons_succ, List.set_cons_zero]
    rw [forL_nx rfl s1]
    simp only [wipe_cons, wipe_nil, List.set_cons_succ, List.set_cons_zero]
    rfl
  refine ⟨[.v (.scr NS)], ?_⟩
  rw [s_law, run_ap (by rfl)]
  simp -implicitDefEqProofs [g_law, c0, m0, q1, hot, c1, m1, eu, ev, d100, q10, hmn, e1, dl, d1000, q6, neg1, hex, hct, ma, mb, ad, ol, e2, e3, hsz, kl, c2, m2, q20, hst, ms, d6000, q620, hlt, mt, dn, d2, q4, hey, hk1, hfs, mf, b1, b2, mt2, eMk, eMk0, mo1, mo0, opIs, opIsN, eqz, lent, line, -Int.natCast_add]
end NV.K06

set_option Elab.async false
set_option linter.all false
set_option maxRecDepth 100000
set_option maxHeartbeats 4000000
/-! k06_images_refused: the walk. -/
namespace NV.K06
open PySem PySem.Spec PyProof.Rows L2 NV
def topS (i : Nat) : Stmt := PySem.Challenge.pw_neveragain_k06_images_refused.main.body.getD i (.Pass ⟨0, 0, 0, 0⟩)
abbrev t_law_mixed : Stmt := topS 21
theorem sc_law_mixed : FnScope ["_law_cell_here", "_law_k", "_law_number"] ["_law_cell_here", "_law_k"] (defScope t_law_mixed) := ⟨rfl, rfl, rfl, by decide +kernel, rfl, by decide +kernel, by decide +kernel⟩
abbrev t_law_cell : Stmt := topS 20
theorem sc_law_cell : FnScope ["_law_script", "_law_k"] ["_law_script", "_law_k"] (defScope t_law_cell) := ⟨rfl, rfl, rfl, by decide +kernel, rfl, by decide +kernel, by decide +kernel⟩
abbrev t_law_word : Stmt := topS 22
theorem sc_law_word : FnScope ["_law_number", "_law_many", "_law_size_here", "_law_word_here", "_law_k"] ["_law_number", "_law_many", "_law_size_here"] (defScope t_law_word) := ⟨rfl, rfl, rfl, by decide +kernel, rfl, by decide +kernel, by decide +kernel⟩
abbrev t_law_others : Stmt := topS 23
theorem sc_law_others : FnScope ["_law_error", "_law_some"] ["_law_error"] (defScope t_law_others) := ⟨rfl, rfl, rfl, by decide +kernel, rfl, by decide +kernel, by decide +kernel⟩
abbrev t_law_refused : Stmt := topS 25
theorem sc_law_refused : FnScope ["_law_kept", "_law_bound"] ["_law_kept", "_law_bound"] (defScope t_law_refused) := ⟨rfl, rfl, rfl, by decide +kernel, rfl, by decide +kernel, by decide +kernel⟩
abbrev t_law_due : Stmt := topS 26
theorem sc_law_due : FnScope ["_law_told_here", "_law_size_here", "_law_bound"] ["_law_told_here", "_law_size_here", "_law_bound"] (defScope t_law_due) := ⟨rfl, rfl, rfl, by decide +kernel, rfl, by decide +kernel, by decide +kernel⟩
abbrev t_number_of : Stmt := topS 11
theorem sc_number_of : FnScope ["letter"] ["letter"] (defScope t_number_of) := ⟨rfl, rfl, rfl, by decide +kernel, rfl, by decide +kernel, by decide +kernel⟩
abbrev t_image_within : Stmt := topS 15
theorem sc_image_within : FnScope ["rule", "word", "most", "parts", "sign", "part"] ["rule", "word", "most"] (defScope t_image_within) := ⟨rfl, rfl, rfl, by decide +kernel, rfl, by decide +kernel, by decide +kernel⟩
abbrev t_image : Stmt := topS 16
theorem sc_image : FnScope ["rule", "word"] ["rule", "word"] (defScope t_image) := ⟨rfl, rfl, rfl, by decide +kernel, rfl, by decide +kernel, by decide +kernel⟩
abbrev t_turned : Stmt := topS 17
theorem sc_turned : FnScope ["rule", "word", "times", "turn"] ["rule", "word", "times"] (defScope t_turned) := ⟨rfl, rfl, rfl, by decide +kernel, rfl, by decide +kernel, by decide +kernel⟩
abbrev t_law_size : Stmt := topS 27
theorem sc_law_size : FnScope ["_law_rule", "_law_sizes_now", "_law_word_here", "_law_sign"] ["_law_rule", "_law_sizes_now", "_law_word_here"] (defScope t_law_size) := ⟨rfl, rfl, rfl, by decide +kernel, rfl, by decide +kernel, by decide +kernel⟩
abbrev t_law_many_turns : Stmt := topS 28
theorem sc_law_many_turns : FnScope ["_law_script", "_law_number", "_law_many", "_law_rule", "_law_k", "_law_word_here", "_law_sizes_now", "_law_times", "_law_beyond", "_law_kept", "_law_found", "_law_error", "_law_one"] ["_law_script"] (defScope t_law_many_turns) := ⟨rfl, rfl, rfl, by decide +kernel, rfl, by decide +kernel, by decide +kernel⟩
abbrev t_behind : Stmt := topS 18
theorem sc_behind : FnScope ["first", "later", "word"] ["first", "later"] (defScope t_behind) := ⟨rfl, rfl, rfl, by decide +kernel, rfl, by decide +kernel, by decide +kernel⟩
abbrev t_law_told : Stmt := topS 24
theorem sc_law_told : FnScope ["_law_way", "_law_rule", "_law_word_here", "_law_later", "_law_kept", "_law_found", "_law_error"] ["_law_way", "_law_rule", "_law_word_here", "_law_later"] (defScope t_law_told) := ⟨rfl, rfl, rfl, by decide +kernel, rfl, by decide +kernel, by decide +kernel⟩
abbrev t_law_behind_due : Stmt := topS 29
theorem sc_law_behind_due : FnScope ["_law_first", "_law_later", "_law_size_here", "_law_word_here", "_law_told_here", "_law_sign"] ["_law_first", "_law_later"] (defScope t_law_behind_due) := ⟨rfl, rfl, rfl, by decide +kernel, rfl, by decide +kernel, by decide +kernel⟩
abbrev t_law : Stmt := topS 30
theorem sc_law : FnScope ["_law_script", "_law_number", "_law_other", "_law_rule", "_law_many", "_law_left", "_law_word_here", "_law_size_here", "_law_way", "_law_step", "_law_late", "_law_near", "_law_first", "_law_by_name"] ["_law_script"] (defScope t_law) := ⟨rfl, rfl, rfl, by decide +kernel, rfl, by decide +kernel, by decide +kernel⟩
abbrev t_tginit : Stmt := (clsBody (topS 8)).getD 0 (.Pass ⟨0, 0, 0, 0⟩)
theorem sc_tginit : FnScope ["self", "most"] ["self", "most"] (defScope t_tginit) := ⟨rfl, rfl, rfl, by decide +kernel, rfl, by decide +kernel, by decide +kernel⟩
structure Tab (K : PySem.W.Frag) (mg : Str → Option Value) where
  xA : Nat → Addr
  xT : XT K mg [7] [1, 2, 3, 4, 5, 6, 7, 8] xA
  gx_0 : mg "WordError" = some (.ref (xA 0))
  gx_1 : mg "NoRule" = some (.ref (xA 1))
  gx_2 : mg "NoStart" = some (.ref (xA 2))
  gx_3 : mg "NoPiece" = some (.ref (xA 3))
  gx_4 : mg "NotMixed" = some (.ref (xA 4))
  gx_5 : mg "NoShares" = some (.ref (xA 5))
  gx_6 : mg "NoRow" = some (.ref (xA 6))
  gx_7 : mg "TooGreat" = some (.ref (xA 7))
  a_tginit : Addr
  d_tginit : FuncData
  tg : TGT K mg (xA 7) (xA 0) a_tginit
  F_tginit : FunD K "__init__" "TooGreat.__init__" (defArgs t_tginit) (defBody t_tginit) (defScope t_tginit) [.non] [] a_tginit d_tginit
  b_tginit : Binds K d_tginit ["self", "most"] []
  b0_tginit : ∃ ds, Vals [V.non] ds ∧ Binds K d_tginit ["self", "most"] ds
  bk_tginit : ∀ (s : Shared) (us ws : List Value), K.In s.heap → us.length = 1 → ws.length = 1 → BindsTo s d_tginit ⟨us, (["most"] : List Str).zip ws⟩ ((["self", "most"] : List Str).zip (us ++ ws))
  a_law_mixed : Addr
  d_law_mixed : FuncData
  F_law_mixed : Fun K "_law_mixed" "_law_mixed" t_law_mixed a_law_mixed d_law_mixed
  b_law_mixed : Binds K d_law_mixed ["_law_cell_here", "_law_k"] []
  g_law_mixed : mg "_law_mixed" = some (.ref a_law_mixed)
  a_law_cell : Addr
  d_law_cell : FuncData
  F_law_cell : Fun K "_law_cell" "_law_cell" t_law_cell a_law_cell d_law_cell
  b_law_cell : Binds K d_law_cell ["_law_script", "_law_k"] []
  g_law_cell : mg "_law_cell" = some (.ref a_law_cell)
  a_law_word : Addr
  d_law_word : FuncData
  F_law_word : Fun K "_law_word" "_law_word" t_law_word a_law_word d_law_word
  b_law_word : Binds K d_law_word ["_law_number", "_law_many", "_law_size_here"] []
  g_law_word : mg "_law_word" = some (.ref a_law_word)
  a_law_others : Addr
  d_law_others : FuncData
  F_law_others : Fun K "_law_others" "_law_others" t_law_others a_law_others d_law_others
  b_law_others : Binds K d_law_others ["_law_error"] []
  g_law_others : mg "_law_others" = some (.ref a_law_others)
  a_law_refused : Addr
  d_law_refused : FuncData
  F_law_refused : Fun K "_law_refused" "_law_refused" t_law_refused a_law_refused d_law_refused
  b_law_refused : Binds K d_law_refused ["_law_kept", "_law_bound"] []
  g_law_refused : mg "_law_refused" = some (.ref a_law_refused)
  a_law_due : Addr
  d_law_due : FuncData
  F_law_due : Fun K "_law_due" "_law_due" t_law_due a_law_due d_law_due
  b_law_due : Binds K d_law_due ["_law_told_here", "_law_size_here", "_law_bound"] []
  g_law_due : mg "_law_due" = some (.ref a_law_due)
  a_number_of : Addr
  d_number_of : FuncData
  F_number_of : Fun K "number_of" "number_of" t_number_of a_number_of d_number_of
  b_number_of : Binds K d_number_of ["letter"] []
  g_number_of : mg "number_of" = some (.ref a_number_of)
  a_image_within : Addr
  d_image_within : FuncData
  F_image_within : Fun K "image_within" "image_within" t_image_within a_image_within d_image_within
  b_image_within : Binds K d_image_within ["rule", "word", "most"] []
  g_image_within : mg "image_within" = some (.ref a_image_within)
  a_image : Addr
  d_image : FuncData
  F_image : Fun K "image" "image" t_image a_image d_image
  b_image : Binds K d_image ["rule", "word"] []
  g_image : mg "image" = some (.ref a_image)
  a_turned : Addr
  d_turned : FuncData
  F_turned : Fun K "turned" "turned" t_turned a_turned d_turned
  b_turned : Binds K d_turned ["rule", "word", "times"] []
  g_turned : mg "turned" = some (.ref a_turned)
  a_law_size : Addr
  d_law_size : FuncData
  F_law_size : Fun K "_law_size" "_law_size" t_law_size a_law_size d_law_size
  b_law_size : Binds K d_law_size ["_law_rule", "_law_sizes_now", "_law_word_here"] []
  g_law_size : mg "_law_size" = some (.ref a_law_size)
  a_law_many_turns : Addr
  d_law_many_turns : FuncData
  F_law_many_turns : Fun K "_law_many_turns" "_law_many_turns" t_law_many_turns a_law_many_turns d_law_many_turns
  b_law_many_turns : Binds K d_law_many_turns ["_law_script"] []
  g_law_many_turns : mg "_law_many_turns" = some (.ref a_law_many_turns)
  a_behind : Addr
  d_behind : FuncData
  F_behind : Fun K "behind" "behind" t_behind a_behind d_behind
  b_behind : Binds K d_behind ["first", "later"] []
  g_behind : mg "behind" = some (.ref a_behind)
  a_law_told : Addr
  d_law_told : FuncData
  F_law_told : Fun K "_law_told" "_law_told" t_law_told a_law_told d_law_told
  b_law_told : Binds K d_law_told ["_law_way", "_law_rule", "_law_word_here", "_law_later"] []
  g_law_told : mg "_law_told" = some (.ref a_law_told)
  a_law_behind_due : Addr
  d_law_behind_due : FuncData
  F_law_behind_due : Fun K "_law_behind_due" "_law_behind_due" t_law_behind_due a_law_behind_due d_law_behind_due
  b_law_behind_due : Binds K d_law_behind_due ["_law_first", "_law_later"] []
  g_law_behind_due : mg "_law_behind_due" = some (.ref a_law_behind_due)
  a_law : Addr
  d_law : FuncData
  F_law : Fun K "law" "law" t_law a_law d_law
  b_law : Binds K d_law ["_law_script"] []
  g_law : mg "law" = some (.ref a_law)
  m_ValueError : mg "ValueError" = none
  m_bool : mg "bool" = none
  m_int : mg "int" = none
  m_isinstance : mg "isinstance" = none
  m_len : mg "len" = none
  m_max : mg "max" = none
  m_min : mg "min" = none
  m_range : mg "range" = none
  m_str : mg "str" = none
  m_sum : mg "sum" = none
  m_tuple : mg "tuple" = none
  c_LETTERS : ∃ u, mg "LETTERS" = some u ∧ RelV (.str (ofL [97, 98, 99, 100])) u
  c_MOST_IMAGE : ∃ u, mg "MOST_IMAGE" = some u ∧ RelV (.int 20000) u
  c_MOST_WORD : ∃ u, mg "MOST_WORD" = some u ∧ RelV (.int 100) u
section
variable {P : Program} {w : World} {K : PySem.W.Frag} {mg : Str → Option Value} {base : Heap}
theorem ok_tginit (T : Tab K mg) : FnOk P w K mg base (L2.CX P w) 1 T.a_tginit T.d_tginit ["self", "most"] (spI (T.xA 7)) :=
  init_ok T.tg T.F_tginit sc_tginit fun cdv A outer s H E hr => pss_cons (ps_expr (pe_ownInit T.tg rfl (pa_cons (pe_var (i := 0) rfl (Or.inl rfl)) (pa_cons pe_str pa_nil)))) (pss_one (ps_ost (pe_var (i := 0) rfl (Or.inl rfl)) (pe_var (i := 1) rfl (Or.inl rfl))))
theorem ok_law_mixed (T : Tab K mg) : FnOk P w K mg base (L2.CX P w) 1 T.a_law_mixed T.d_law_mixed ["_law_cell_here", "_law_k"] (spD K (ZX K [7]) 2 s_law_mixed) :=
  def_ok T.F_law_mixed sc_law_mixed rfl rfl fun cdv A outer s H E hr =>
    (rss_cons (rs_set 2 sc_law_mixed.nd rfl (by first | exact .inl rfl | exact .inr rfl) (re_2 opd_mod (re_2 opd_add (re_2 opd_add (re_2 opd_mul (re_2 opd_mod (gV 0) re_int) re_int) (re_2 opd_mul (re_2 opd_mul re_int (gV 1)) (gV 1))) re_int) re_int))
    (rss_one (rs_ret (re_2 opd_mod (re_2 opd_mul (gV 2) (gV 2)) re_int))))
theorem ok_law_cell (T : Tab K mg) : FnOk P w K mg base (L2.CX P w) 1 T.a_law_cell T.d_law_cell ["_law_script", "_law_k"] (spD K (ZX K [7]) 2 s_law_cell) :=
  def_ok T.F_law_cell sc_law_cell rfl rfl fun cdv A outer s H E hr =>
    (rss_cons (rs_if (rt_cmp opd_lt (gV 1) (re_b1 cd_len rfl T.m_len rfl (gV 0)) (by rfl))
    (rss_one (rs_ret (re_ix (hu_of hr) (gV 0) (gV 1)))) rss_nil)
    (rss_one (rs_ret re_int)))
theorem ok_law_word (T : Tab K mg) : FnOk P w K mg base (L2.CX P w) 1 T.a_law_word T.d_law_word ["_law_number", "_law_many", "_law_size_here"] (spD K (ZX K [7]) 3 s_law_word) :=
  def_ok T.F_law_word sc_law_word rfl rfl fun cdv A outer s H E hr =>
    (rss_cons (rs_set 3 sc_law_word.nd rfl (by first | exact .inl rfl | exact .inr rfl) (gS []))
    (rss_cons (rs_for (A := b_law_word_1) [4] (passes_of rfl) rfl (ri_r1 rfl T.m_range (gV 2)) (rg_name 4 sc_law_word.nd rfl (by first | exact .inl rfl | exact .inr rfl))
    (rss_cons (rs_set 0 sc_law_word.nd rfl (by first | exact .inl rfl | exact .inr rfl) (re_2 opd_mod (re_2 opd_mul (re_2 opd_add (re_2 opd_add (gV 0) (gV 4)) re_int) re_int) re_int))
    (rss_one (rs_set 3 sc_law_word.nd rfl (by first | exact .inl rfl | exact .inr rfl) (re_2 opd_add (gV 3) (re_ix (hu_of hr) (gS [97, 98, 99, 100]) (re_2 opd_mod (re_2 opd_div (gV 0) re_int) (gV 1))))))))
    (rss_one (rs_ret (gV 3)))))
theorem ok_law_others (T : Tab K mg) : FnOk P w K mg base (L2.CX P w) 1 T.a_law_others T.d_law_others ["_law_error"] (spD K (ZX K [7]) 1 s_law_others) :=
  def_ok T.F_law_others sc_law_others rfl rfl fun cdv A outer s H E hr =>
    (rss_cons (rs_set 1 sc_law_others.nd rfl (by first | exact .inl rfl | exact .inr rfl) (re_lst (ra_cons (re_isX T.xT 2 (by decide) rfl T.m_isinstance (gV 0) (clsE_own 2 (by decide) rfl T.gx_2)) (ra_cons (re_isX T.xT 3 (by decide) rfl T.m_isinstance (gV 0) (clsE_own 3 (by decide) rfl T.gx_3)) (ra_cons (re_isX T.xT 4 (by decide) rfl T.m_isinstance (gV 0) (clsE_own 4 (by decide) rfl T.gx_4)) ra_nil)))))
    (rss_cons (rs_set 1 sc_law_others.nd rfl (by first | exact .inl rfl | exact .inr rfl) (re_2 opd_add (gV 1) (re_lst (ra_cons (re_isX T.xT 5 (by decide) rfl T.m_isinstance (gV 0) (clsE_own 5 (by decide) rfl T.gx_5)) (ra_cons (re_isX T.xT 6 (by decide) rfl T.m_isinstance (gV 0) (clsE_own 6 (by decide) rfl T.gx_6)) (ra_cons (re_isX T.xT 1 (by decide) rfl T.m_isinstance (gV 0) (clsE_own 1 (by decide) rfl T.gx_1)) ra_nil))))))
    (rss_one (rs_ret (re_cmp (opd_in (hu_of hr)) re_bl (gV 1) (by rfl))))))
theorem ok_law_refused (T : Tab K mg) : FnOk P w K mg base (L2.CX P w) 2 T.a_law_refused T.d_law_refused ["_law_kept", "_law_bound"] (spD K (ZX K [7]) 2 s_law_refused) :=
  def_ok T.F_law_refused sc_law_refused rfl rfl fun cdv A outer s H E hr =>
    (rss_cons (rs_if (rt_w (rw_or (rt_not (rt_val (re_isX T.xT 7 (by decide) rfl T.m_isinstance (gV 0) (clsE_own 7 (by decide) rfl T.gx_7)))) (rw_or (rt_not (rt_val (re_isX T.xT 8 (by decide) rfl T.m_isinstance (gV 0) (clsE_VE rfl T.m_ValueError)))) (rw_or1 (rt_val (re_val (ro_call (ok_law_others T) (fun as h => run_len as h) (hr.mono (by omega)) rfl T.g_law_others T.F_law_others.kp T.b_law_others (takes_of rfl rfl rfl rfl) (ra_cons (gV 0) ra_nil))))))))
    (rss_one (rs_ret re_bl)) rss_nil)
    (rss_one (rs_ret (re_and (re_isI 1 rfl T.m_isinstance rfl T.m_int (re_most T.xT (gV 0))) (re_and (re_not (re_isI 2 rfl T.m_isinstance rfl T.m_bool (re_most T.xT (gV 0)))) (re_one (re_cmp (opd_eq hr.units) (re_most T.xT (gV 0)) (gV 1) (by rfl))))))))
theorem ok_law_due (T : Tab K mg) : FnOk P w K mg base (L2.CX P w) 3 T.a_law_due T.d_law_due ["_law_told_here", "_law_size_here", "_law_bound"] (spD K (ZX K [7]) 3 s_law_due) :=
  def_ok T.F_law_due sc_law_due rfl rfl fun cdv A outer s H E hr =>
    (rss_cons (rs_if (rt_cmp opd_gt (gV 1) (gV 2) (by rfl))
    (rss_one (rs_ret (re_val (ro_call (ok_law_refused T) (fun as h => run_len as h) (hr.mono (by omega)) rfl T.g_law_refused T.F_law_refused.kp T.b_law_refused (takes_of rfl rfl rfl rfl) (ra_cons (re_ix (hu_of hr) (gV 0) re_int) (ra_cons (gV 2) ra_nil)))))) rss_nil)
    (rss_one (rs_ret (re_and (re_isI 0 rfl T.m_isinstance rfl T.m_str (re_ix (hu_of hr) (gV 0) re_int)) (re_and (re_cmp (opd_eq hr.units) (re_b1 cd_len rfl T.m_len rfl (re_ix (hu_of hr) (gV 0) re_int)) (gV 1) (by rfl)) (re_one (re_cmp opd_is (re_ix (hu_of hr) (gV 0) re_int) re_non (by rfl))))))))
theorem ok_number_of (T : Tab K mg) : FnOk P w K mg base (L2.CX P w) 1 T.a_number_of T.d_number_of ["letter"] (spD K (ZX K [7]) 1 s_number_of) :=
  def_ok T.F_number_of sc_number_of rfl rfl fun cdv A outer s H E hr =>
    (rss_one (rs_ret (re_m1 PySem.F.slot_str_index PySem.F.type_str_index md_index (gG rfl T.c_LETTERS) (gV 0))))
theorem ok_image_within (T : Tab K mg) : FnOk P w K mg base (L2.CX P w) 3 T.a_image_within T.d_image_within ["rule", "word", "most"] (spD K (ZX K [7]) 3 s_image_within) :=
  def_ok T.F_image_within sc_image_within rfl rfl fun cdv A outer s H E hr =>
    (rss_cons (rs_setC 3 rfl sc_image_within.nd rfl rfl rfl (own := [("sign", 4)]) (ri_e (gV 1)) (by rfl) (fun _ _ _ _ _ => (rg_name 4 sc_image_within.nd rfl (by first | exact .inl rfl | exact .inr rfl))) (fun _ _ _ _ _ => rts_nil) (fun _ _ _ _ _ => (re_ix (hu_of hr) (gV 0) (re_val (ro_call (ok_number_of T) (fun as h => run_len as h) (hr.mono (by omega)) rfl T.g_number_of T.F_number_of.kp T.b_number_of takes0 (ra_cons (gV 4) ra_nil))))) (by decide))
    (rss_cons (rs_if (rt_cmp opd_gt (re_b1 (cd_sum rfl) rfl T.m_sum rfl (re_comp (own := [("part", 5)]) rfl sc_image_within.nd (ri_e (gV 3)) (by rfl) (fun _ _ _ _ _ => (rg_name 5 sc_image_within.nd rfl (by first | exact .inl rfl | exact .inr rfl))) (fun _ _ _ _ _ => rts_nil) (fun _ _ _ _ _ => (re_b1 cd_len rfl T.m_len rfl (gV 5))) (by decide))) (gV 2) (by rfl))
    (rss_one (rs_raise1 7 rfl (takes_of rfl rfl rfl rfl) (by decide) T.tg.eC T.tg.ox T.tg.iC T.tg.tI (ok_tginit T) (hr.mono (by omega)) T.b_tginit passes_F rfl T.tg.gC (gV 2))) rss_nil)
    (rss_one (rs_ret (re_m1 PySem.F.slot_str_join PySem.F.type_str_join md_join (gS []) (gV 3))))))
theorem ok_image (T : Tab K mg) : FnOk P w K mg base (L2.CX P w) 4 T.a_image T.d_image ["rule", "word"] (spD K (ZX K [7]) 2 s_image) :=
  def_ok T.F_image sc_image rfl rfl fun cdv A outer s H E hr =>
    (rss_one (rs_ret (re_val (ro_call (ok_image_within T) (fun as h => run_len as h) (hr.mono (by omega)) rfl T.g_image_within T.F_image_within.kp T.b_image_within (takes_of rfl rfl rfl rfl) (ra_cons (gV 0) (ra_cons (gV 1) (ra_cons (gG rfl T.c_MOST_IMAGE) ra_nil)))))))
theorem ok_turned (T : Tab K mg) : FnOk P w K mg base (L2.CX P w) 5 T.a_turned T.d_turned ["rule", "word", "times"] (spD K (ZX K [7]) 3 s_turned) :=
  def_ok T.F_turned sc_turned rfl rfl fun cdv A outer s H E hr =>
    (rss_cons (rs_for (A := b_turned_1) [3] (passes_of rfl) rfl (ri_r1 rfl T.m_range (gV 2)) (rg_name 3 sc_turned.nd rfl (by first | exact .inl rfl | exact .inr rfl))
    (rss_one (rs_set 1 sc_turned.nd rfl (by first | exact .inl rfl | exact .inr rfl) (re_val (ro_call (ok_image T) (fun as h => run_len as h) (hr.mono (by omega)) rfl T.g_image T.F_image.kp T.b_image (takes_of rfl rfl rfl rfl) (ra_cons (gV 0) (ra_cons (gV 1) ra_nil)))))))
    (rss_one (rs_ret (gV 1))))
theorem ok_law_size (T : Tab K mg) : FnOk P w K mg base (L2.CX P w) 1 T.a_law_size T.d_law_size ["_law_rule", "_law_sizes_now", "_law_word_here"] (spD K (ZX K [7]) 3 s_law_size) :=
  def_ok T.F_law_size sc_law_size rfl rfl fun cdv A outer s H E hr =>
    (rss_one (rs_ret (re_b1 (cd_sum rfl) rfl T.m_sum rfl (re_comp (own := [("_law_sign", 3)]) rfl sc_law_size.nd (ri_e (gV 2)) (by rfl) (fun _ _ _ _ _ => (rg_name 3 sc_law_size.nd rfl (by first | exact .inl rfl | exact .inr rfl))) (fun _ _ _ _ _ => rts_nil) (fun _ _ _ _ _ => (re_ix (hu_of hr) (gV 1) (re_m1 PySem.F.slot_str_index PySem.F.type_str_index md_index (gS [97, 98, 99, 100]) (gV 3)))) (by decide)))))
theorem ok_law_many_turns (T : Tab K mg) : FnOk P w K mg base (L2.CX P w) 6 T.a_law_many_turns T.d_law_many_turns ["_law_script"] (spD K (ZX K [7]) 1 s_law_many_turns) :=
  def_ok T.F_law_many_turns sc_law_many_turns rfl rfl fun cdv A outer s H E hr =>
    (rss_cons (rs_set 1 sc_law_many_turns.nd rfl (by first | exact .inl rfl | exact .inr rfl) (re_val (ro_call (ok_law_mixed T) (fun as h => run_len as h) (hr.mono (by omega)) rfl T.g_law_mixed T.F_law_mixed.kp T.b_law_mixed (takes_of rfl rfl rfl rfl) (ra_cons (re_val (ro_call (ok_law_cell T) (fun as h => run_len as h) (hr.mono (by omega)) rfl T.g_law_cell T.F_law_cell.kp T.b_law_cell (takes_of rfl rfl rfl rfl) (ra_cons (gV 0) (ra_cons re_int ra_nil)))) (ra_cons re_int ra_nil)))))
    (rss_cons (rs_set 2 sc_law_many_turns.nd rfl (by first | exact .inl rfl | exact .inr rfl) (re_2 opd_add re_int (re_2 opd_mod (gV 1) re_int)))
    (rss_cons (rs_own 3 sc_law_many_turns.nd rfl (by first | exact .inl rfl | exact .inr rfl) (ro_lst ra_nil))
    (rss_cons (rs_for (A := b_law_many_turns_1) [4] (passes_of rfl) rfl (ri_r1 rfl T.m_range (gV 2)) (rg_name 4 sc_law_many_turns.nd rfl (by first | exact .inl rfl | exact .inr rfl))
    (rss_one (rs_append 3 rfl (by first | exact Or.inl rfl | exact Or.inr (Or.inl rfl) | exact Or.inr (Or.inr rfl)) (re_val (ro_call (ok_law_word T) (fun as h => run_len as h) (hr.mono (by omega)) rfl T.g_law_word T.F_law_word.kp T.b_law_word (takes_of rfl rfl rfl rfl) (ra_cons (re_val (ro_call (ok_law_mixed T) (fun as h => run_len as h) (hr.mono (by omega)) rfl T.g_law_mixed T.F_law_mixed.kp T.b_law_mixed (takes_of rfl rfl rfl rfl) (ra_cons (re_val (ro_call (ok_law_cell T) (fun as h => run_len as h) (hr.mono (by omega)) rfl T.g_law_cell T.F_law_cell.kp T.b_law_cell (takes_of rfl rfl rfl rfl) (ra_cons (gV 0) (ra_cons (re_2 opd_add re_int (gV 4)) ra_nil)))) (ra_cons (gV 4) ra_nil)))) (ra_cons (gV 2) (ra_cons (re_2 opd_add re_int (re_2 opd_mod (re_2 opd_div (gV 1) (re_2 opd_add re_int (gV 4))) re_int)) ra_nil))))))))
    (rss_cons (rs_set 5 sc_law_many_turns.nd rfl (by first | exact .inl rfl | exact .inr rfl) (re_val (ro_call (ok_law_word T) (fun as h => run_len as h) (hr.mono (by omega)) rfl T.g_law_word T.F_law_word.kp T.b_law_word (takes_of rfl rfl rfl rfl) (ra_cons (re_val (ro_call (ok_law_mixed T) (fun as h => run_len as h) (hr.mono (by omega)) rfl T.g_law_mixed T.F_law_mixed.kp T.b_law_mixed (takes_of rfl rfl rfl rfl) (ra_cons (re_val (ro_call (ok_law_cell T) (fun as h => run_len as h) (hr.mono (by omega)) rfl T.g_law_cell T.F_law_cell.kp T.b_law_cell (takes_of rfl rfl rfl rfl) (ra_cons (gV 0) (ra_cons re_int ra_nil)))) (ra_cons re_int ra_nil)))) (ra_cons (gV 2) (ra_cons (re_2 opd_mod (re_2 opd_div (gV 1) re_int) re_int) ra_nil))))))
    (rss_cons (rs_set 6 sc_law_many_turns.nd rfl (by first | exact .inl rfl | exact .inr rfl) (re_frz 3 (re_comp (own := [("_law_one", 12)]) rfl sc_law_many_turns.nd (ri_e (gV 3)) (by rfl) (fun _ _ _ _ _ => (rg_name 12 sc_law_many_turns.nd rfl (by first | exact .inl rfl | exact .inr rfl))) (fun _ _ _ _ _ => rts_nil) (fun _ _ _ _ _ => re_int) (by decide))))
    (rss_cons (rs_set 7 sc_law_many_turns.nd rfl (by first | exact .inl rfl | exact .inr rfl) re_int)
    (rss_cons (rs_set 8 sc_law_many_turns.nd rfl (by first | exact .inl rfl | exact .inr rfl) re_int)
    (rss_cons (rs_while (f := c_law_many_turns_3) (A := b_law_many_turns_4) [] (passes_of rfl) (rt_w (rw_and (rt_cmp opd_lt (gV 7) (re_2 opd_add re_int (re_2 opd_mod (re_2 opd_div (gV 1) re_int) re_int)) (by rfl)) (rw_and1 (rt_cmp opd_lt (gV 8) (re_2 opd_add re_int (re_2 opd_mod (re_2 opd_div (gV 1) re_int) re_int)) (by rfl)))))
    (rss_cons (rs_set 6 sc_law_many_turns.nd rfl (by first | exact .inl rfl | exact .inr rfl) (re_frz 3 (re_comp (own := [("_law_one", 12)]) rfl sc_law_many_turns.nd (ri_e (gV 3)) (by rfl) (fun _ _ _ _ _ => (rg_name 12 sc_law_many_turns.nd rfl (by first | exact .inl rfl | exact .inr rfl))) (fun _ _ _ _ _ => rts_nil) (fun _ _ _ _ _ => (re_val (ro_call (ok_law_size T) (fun as h => run_len as h) (hr.mono (by omega)) rfl T.g_law_size T.F_law_size.kp T.b_law_size takes0 (ra_cons (gV 3) (ra_cons (gV 6) (ra_cons (gV 12) ra_nil)))))) (by decide))))
    (rss_cons (rs_set 7 sc_law_many_turns.nd rfl (by first | exact .inl rfl | exact .inr rfl) (re_2 opd_add (gV 7) re_int))
    (rss_one (rs_set 8 sc_law_many_turns.nd rfl (by first | exact .inl rfl | exact .inr rfl) (re_thaw (re_2 opd_add (gV 8) (re_t1 cd_int rfl T.m_int rfl (re_cmp opd_gt (re_val (ro_call (ok_law_size T) (fun as h => run_len as h) (hr.mono (by omega)) rfl T.g_law_size T.F_law_size.kp T.b_law_size (takes_of rfl rfl rfl rfl) (ra_cons (gV 3) (ra_cons (gV 6) (ra_cons (gV 5) ra_nil))))) re_int (by rfl))))))))))
    (rss_cons (rs_set 9 sc_law_many_turns.nd rfl (by first | exact .inl rfl | exact .inr rfl) re_non)
    (rss_cons (rs_set 10 sc_law_many_turns.nd rfl (by first | exact .inl rfl | exact .inr rfl) re_non)
    (rss_cons (rs_try 11 9 rfl rfl sc_law_many_turns.nd rfl rfl (by decide) rfl rfl (Or.inl rfl) ⟨rfl, by decide, Or.inl T.gx_0⟩ (takes_of rfl rfl rfl rfl) T.xT.hex (fun W pn xe tk _ =>
    (rss_one (rs_set 10 sc_law_many_turns.nd rfl (by first | exact .inl rfl | exact .inr rfl) (re_frz 3 (re_val (ro_call (ok_turned T) (fun as h => run_len as h) (hr.mono (by omega)) rfl T.g_turned T.F_turned.kp T.b_turned tk (ra_cons (re_t1 cd_tuple rfl T.m_tuple rfl (gV 3)) (ra_cons (gV 5) (ra_cons (gV 7) ra_nil))))))))))
    (rss_one (rs_ret (re_thaw (re_val (ro_call (ok_law_due T) (fun as h => run_len as h) (hr.mono (by omega)) rfl T.g_law_due T.F_law_due.kp T.b_law_due (takes_of rfl rfl rfl rfl) (ra_cons (re_lst (ra_cons (gV 10) (ra_cons (gV 9) ra_nil))) (ra_cons (re_val (ro_call (ok_law_size T) (fun as h => run_len as h) (hr.mono (by omega)) rfl T.g_law_size T.F_law_size.kp T.b_law_size (takes_of rfl rfl rfl rfl) (ra_cons (gV 3) (ra_cons (gV 6) (ra_cons (gV 5) ra_nil))))) (ra_cons re_int ra_nil))))))))))))))))))))
theorem ok_behind (T : Tab K mg) : FnOk P w K mg base (L2.CX P w) 4 T.a_behind T.d_behind ["first", "later"] (spD K (ZX K [7]) 2 s_behind) :=
  def_ok T.F_behind sc_behind rfl rfl fun cdv A outer s H E hr =>
    (rss_one (rs_ret (re_t1 cd_tuple rfl T.m_tuple rfl (re_compR (own := [("word", 2)]) (takes_of rfl rfl rfl rfl) rfl rfl rfl sc_behind.nd (ri_e (gV 0)) (by rfl) (fun _ _ _ _ _ _ => (rg_name 2 sc_behind.nd rfl (by first | exact .inl rfl | exact .inr rfl))) (fun _ _ _ _ _ _ _ hx => (re_val (ro_callP (ok_image_within T) (fun as h => run_len as h) (hr.mono (by omega)) rfl T.g_image_within T.F_image_within.kp T.b_image_within hx (ra_cons (gV 1) (ra_cons (gV 2) (ra_cons (gG rfl T.c_MOST_WORD) ra_nil)))))) (by decide)))))
theorem ok_law_told (T : Tab K mg) : FnOk P w K mg base (L2.CX P w) 6 T.a_law_told T.d_law_told ["_law_way", "_law_rule", "_law_word_here", "_law_later"] (spD K (ZX K [7]) 4 s_law_told) :=
  def_ok T.F_law_told sc_law_told rfl rfl fun cdv A outer s H E hr =>
    (rss_cons (rs_set 4 sc_law_told.nd rfl (by first | exact .inl rfl | exact .inr rfl) re_non)
    (rss_cons (rs_set 5 sc_law_told.nd rfl (by first | exact .inl rfl | exact .inr rfl) re_non)
    (rss_cons (rs_try 6 4 rfl rfl sc_law_told.nd rfl rfl (by decide) rfl rfl (Or.inl rfl) ⟨rfl, by decide, Or.inl T.gx_0⟩ (takes_of rfl rfl rfl rfl) T.xT.hex (fun W pn xe tk _ =>
    (rss_one (rs_if (rt_cmp (opd_eq hr.units) (gV 0) re_int (by rfl))
    (rss_one (rs_set 5 sc_law_told.nd rfl (by first | exact .inl rfl | exact .inr rfl) (re_val (ro_call (ok_image T) (fun as h => run_len as h) (hr.mono (by omega)) rfl T.g_image T.F_image.kp T.b_image tk (ra_cons (gV 1) (ra_cons (gV 2) ra_nil)))))) (rss_one (rs_if (rt_cmp (opd_eq hr.units) (gV 0) re_int (by rfl))
    (rss_one (rs_set 5 sc_law_told.nd rfl (by first | exact .inl rfl | exact .inr rfl) (re_val (ro_call (ok_turned T) (fun as h => run_len as h) (hr.mono (by omega)) rfl T.g_turned T.F_turned.kp T.b_turned tk (ra_cons (gV 1) (ra_cons (gV 2) (ra_cons re_int ra_nil))))))) (rss_one (rs_set 5 sc_law_told.nd rfl (by first | exact .inl rfl | exact .inr rfl) (re_val (ro_call (ok_behind T) (fun as h => run_len as h) (hr.mono (by omega)) rfl T.g_behind T.F_behind.kp T.b_behind tk (ra_cons (gV 1) (ra_cons (gV 3) ra_nil))))))))))))
    (rss_one (rs_ret (re_lst (ra_cons (gV 5) (ra_cons (gV 4) ra_nil))))))))
theorem ok_law_behind_due (T : Tab K mg) : FnOk P w K mg base (L2.CX P w) 7 T.a_law_behind_due T.d_law_behind_due ["_law_first", "_law_later"] (spD K (ZX K [7]) 2 s_law_behind_due) :=
  def_ok T.F_law_behind_due sc_law_behind_due rfl rfl fun cdv A outer s H E hr =>
    (rss_cons (rs_set 2 sc_law_behind_due.nd rfl (by first | exact .inl rfl | exact .inr rfl) re_int)
    (rss_cons (rs_for (A := b_law_behind_due_2) [] (passes_of rfl) rfl (ri_e (gV 0)) (rg_name 3 sc_law_behind_due.nd rfl (by first | exact .inl rfl | exact .inr rfl))
    (rss_one (rs_set 2 sc_law_behind_due.nd rfl (by first | exact .inl rfl | exact .inr rfl) (re_b2 (cd_max2 rfl) rfl T.m_max rfl (gV 2) (re_b1 (cd_sum rfl) rfl T.m_sum rfl (re_comp (own := [("_law_sign", 5)]) rfl sc_law_behind_due.nd (ri_e (gV 3)) (by rfl) (fun _ _ _ _ _ => (rg_name 5 sc_law_behind_due.nd rfl (by first | exact .inl rfl | exact .inr rfl))) (fun _ _ _ _ _ => rts_nil) (fun _ _ _ _ _ => (re_b1 cd_len rfl T.m_len rfl (re_ix (hu_of hr) (gV 1) (re_m1 PySem.F.slot_str_index PySem.F.type_str_index md_index (gS [97, 98, 99, 100]) (gV 5))))) (by decide)))))))
    (rss_cons (rs_set 4 sc_law_behind_due.nd rfl (by first | exact .inl rfl | exact .inr rfl) (re_val (ro_call (ok_law_told T) (fun as h => run_len as h) (hr.mono (by omega)) rfl T.g_law_told T.F_law_told.kp T.b_law_told (takes_of rfl rfl rfl rfl) (ra_cons re_int (ra_cons (gV 0) (ra_cons (gS []) (ra_cons (gV 1) ra_nil)))))))
    (rss_cons (rs_if (rt_cmp opd_gt (gV 2) re_int (by rfl))
    (rss_one (rs_ret (re_val (ro_call (ok_law_refused T) (fun as h => run_len as h) (hr.mono (by omega)) rfl T.g_law_refused T.F_law_refused.kp T.b_law_refused (takes_of rfl rfl rfl rfl) (ra_cons (re_ix (hu_of hr) (gV 4) re_int) (ra_cons re_int ra_nil)))))) rss_nil)
    (rss_one (rs_ret (re_and (re_isI 4 rfl T.m_isinstance rfl T.m_tuple (re_ix (hu_of hr) (gV 4) re_int)) (re_one (re_cmp (opd_eq hr.units) (re_b1 (cd_max rfl) rfl T.m_max rfl (re_comp (own := [("_law_word_here", 3)]) rfl sc_law_behind_due.nd (ri_e (re_ix (hu_of hr) (gV 4) re_int)) (by rfl) (fun _ _ _ _ _ => (rg_name 3 sc_law_behind_due.nd rfl (by first | exact .inl rfl | exact .inr rfl))) (fun _ _ _ _ _ => rts_nil) (fun _ _ _ _ _ => (re_b1 cd_len rfl T.m_len rfl (gV 3))) (by decide))) (gV 2) (by rfl))))))))))
theorem ok_law (T : Tab K mg) : FnOk P w K mg base (L2.CX P w) 8 T.a_law T.d_law ["_law_script"] (spD K (ZX K [7]) 1 s_law) :=
  def_ok T.F_law sc_law rfl rfl fun cdv A outer s H E hr =>
    (rss_cons (rs_set 1 sc_law.nd rfl (by first | exact .inl rfl | exact .inr rfl) (re_val (ro_call (ok_law_mixed T) (fun as h => run_len as h) (hr.mono (by omega)) rfl T.g_law_mixed T.F_law_mixed.kp T.b_law_mixed (takes_of rfl rfl rfl rfl) (ra_cons (re_val (ro_call (ok_law_cell T) (fun as h => run_len as h) (hr.mono (by omega)) rfl T.g_law_cell T.F_law_cell.kp T.b_law_cell (takes_of rfl rfl rfl rfl) (ra_cons (gV 0) (ra_cons re_int ra_nil)))) (ra_cons re_int ra_nil)))))
    (rss_cons (rs_set 2 sc_law.nd rfl (by first | exact .inl rfl | exact .inr rfl) (re_2 opd_add re_int (re_2 opd_mod (gV 1) re_int)))
    (rss_cons (rs_set 3 sc_law.nd rfl (by first | exact .inl rfl | exact .inr rfl) (re_tup (ra_cons (re_val (ro_call (ok_law_word T) (fun as h => run_len as h) (hr.mono (by omega)) rfl T.g_law_word T.F_law_word.kp T.b_law_word (takes_of rfl rfl rfl rfl) (ra_cons (re_val (ro_call (ok_law_mixed T) (fun as h => run_len as h) (hr.mono (by omega)) rfl T.g_law_mixed T.F_law_mixed.kp T.b_law_mixed (takes_of rfl rfl rfl rfl) (ra_cons (re_val (ro_call (ok_law_cell T) (fun as h => run_len as h) (hr.mono (by omega)) rfl T.g_law_cell T.F_law_cell.kp T.b_law_cell (takes_of rfl rfl rfl rfl) (ra_cons (gV 0) (ra_cons re_int ra_nil)))) (ra_cons re_int ra_nil)))) (ra_cons re_int (ra_cons re_int ra_nil))))) (ra_cons (re_val (ro_call (ok_law_word T) (fun as h => run_len as h) (hr.mono (by omega)) rfl T.g_law_word T.F_law_word.kp T.b_law_word (takes_of rfl rfl rfl rfl) (ra_cons (gV 1) (ra_cons re_int (ra_cons (gV 2) ra_nil))))) ra_nil))))
    (rss_cons (rs_set 4 sc_law.nd rfl (by first | exact .inl rfl | exact .inr rfl) (re_2 opd_add re_int (re_2 opd_mod (re_2 opd_div (gV 1) re_int) re_int)))
    (rss_cons (rs_set 5 sc_law.nd rfl (by first | exact .inl rfl | exact .inr rfl) (re_2 opd_div (re_2 opd_sub re_int (re_2 opd_mul re_int (gV 4))) (gV 2)))
    (rss_cons (rs_set 6 sc_law.nd rfl (by first | exact .inl rfl | exact .inr rfl) (re_2 opd_add (re_2 opd_mul (gS [97]) (gV 4)) (re_2 opd_mul (gS [98]) (re_b2 (cd_max2 rfl) rfl T.m_max rfl re_int (re_2 opd_add (gV 5) (re_ix (hu_of hr) (re_lst (ra_cons re_int (ra_cons re_int (ra_cons re_int (ra_cons re_int (ra_cons (re_un und_neg re_int) (ra_cons re_int ra_nil))))))) (re_2 opd_mod (re_2 opd_div (gV 1) re_int) re_int)))))))
    (rss_cons (rs_set 7 sc_law.nd rfl (by first | exact .inl rfl | exact .inr rfl) (re_2 opd_add (re_2 opd_mul re_int (gV 4)) (re_2 opd_mul (gV 2) (re_2 opd_sub (re_b1 cd_len rfl T.m_len rfl (gV 6)) (gV 4)))))
    (rss_cons (rs_for (A := b_law_1) [8] (passes_of rfl) rfl (ri_e (re_lst (ra_cons re_int (ra_cons re_int ra_nil)))) (rg_name 8 sc_law.nd rfl (by first | exact .inl rfl | exact .inr rfl))
    (rss_one (rs_if (rt_not (rt_val (re_val (ro_call (ok_law_due T) (fun as h => run_len as h) (hr.mono (by omega)) rfl T.g_law_due T.F_law_due.kp T.b_law_due (takes_of rfl rfl rfl rfl) (ra_cons (re_val (ro_call (ok_law_told T) (fun as h => run_len as h) (hr.mono (by omega)) rfl T.g_law_told T.F_law_told.kp T.b_law_told (takes_of rfl rfl rfl rfl) (ra_cons (gV 8) (ra_cons (gV 3) (ra_cons (gV 6) (ra_cons (gV 3) ra_nil)))))) (ra_cons (gV 7) (ra_cons re_int ra_nil)))))))
    (rss_one (rs_ret re_bl)) rss_nil)))
    (rss_cons (rs_set 9 sc_law.nd rfl (by first | exact .inl rfl | exact .inr rfl) (re_2 opd_add re_int (re_2 opd_mod (re_val (ro_call (ok_law_mixed T) (fun as h => run_len as h) (hr.mono (by omega)) rfl T.g_law_mixed T.F_law_mixed.kp T.b_law_mixed (takes_of rfl rfl rfl rfl) (ra_cons (re_val (ro_call (ok_law_cell T) (fun as h => run_len as h) (hr.mono (by omega)) rfl T.g_law_cell T.F_law_cell.kp T.b_law_cell (takes_of rfl rfl rfl rfl) (ra_cons (gV 0) (ra_cons re_int ra_nil)))) (ra_cons re_int ra_nil)))) re_int)))
    (rss_cons (rs_set 10 sc_law.nd rfl (by first | exact .inl rfl | exact .inr rfl) (re_tup (ra_cons (re_2 opd_mul (gS [97]) (gV 9)) (ra_cons (re_2 opd_mul (gS [98]) (re_2 opd_add re_int (re_2 opd_mod (re_2 opd_div (gV 1) re_int) re_int))) ra_nil))))
    (rss_cons (rs_set 11 sc_law.nd rfl (by first | exact .inl rfl | exact .inr rfl) (re_2 opd_add (re_2 opd_div re_int (gV 9)) (re_ix (hu_of hr) (re_lst (ra_cons re_int (ra_cons re_int (ra_cons re_int (ra_cons (re_un und_neg re_int) ra_nil))))) (re_2 opd_mod (re_2 opd_div (gV 1) re_int) re_int))))
    (rss_cons (rs_set 12 sc_law.nd rfl (by first | exact .inl rfl | exact .inr rfl) (re_tup (ra_cons (re_2 opd_mul (gS [97]) (re_b2 (cd_max2 rfl) rfl T.m_max rfl re_int (re_b2 (cd_min2 rfl) rfl T.m_min rfl re_int (gV 11)))) (ra_cons (gS [98, 97]) ra_nil))))
    (rss_cons (rs_if (rt_w (rw_or (rt_not (rt_val (re_val (ro_call (ok_law_behind_due T) (fun as h => run_len as h) (hr.mono (by omega)) rfl T.g_law_behind_due T.F_law_behind_due.kp T.b_law_behind_due (takes_of rfl rfl rfl rfl) (ra_cons (gV 12) (ra_cons (gV 10) ra_nil)))))) (rw_or1 (rt_not (rt_val (re_val (ro_call (ok_law_behind_due T) (fun as h => run_len as h) (hr.mono (by omega)) rfl T.g_law_behind_due T.F_law_behind_due.kp T.b_law_behind_due (takes_of rfl rfl rfl rfl) (ra_cons (gV 10) (ra_cons (gV 12) ra_nil)))))))))
    (rss_one (rs_ret re_bl)) rss_nil)
    (rss_cons (rs_if (rt_not (rt_val (re_val (ro_call (ok_law_many_turns T) (fun as h => run_len as h) (hr.mono (by omega)) rfl T.g_law_many_turns T.F_law_many_turns.kp T.b_law_many_turns (takes_of rfl rfl rfl rfl) (ra_cons (gV 0) ra_nil)))))
    (rss_one (rs_ret re_bl)) rss_nil)
    (rss_cons (rs_set 13 sc_law.nd rfl (by first | exact .inl rfl | exact .inr rfl) (re_mkK 7 T.tg.eC T.tg.ox T.tg.iC T.tg.tI (ok_tginit T) (hr.mono (by omega)) T.bk_tginit passes_F rfl T.tg.gC (gV 1)))
    (rss_one (rs_ret (re_and (re_cmp opd_is (re_most T.xT (re_mk0 7 T.tg.eC T.tg.ox T.tg.iC T.tg.tI (ok_tginit T) (hr.mono (by omega)) T.b0_tginit passes_F rfl T.tg.gC)) re_non (by rfl)) (re_and (re_cmp (opd_eq hr.units) (re_most T.xT (re_mk1 7 T.tg.eC T.tg.ox T.tg.iC T.tg.tI (ok_tginit T) (hr.mono (by omega)) T.b_tginit passes_F rfl T.tg.gC (gV 1))) (gV 1) (by rfl)) (re_one (re_cmp (opd_eq hr.units) (re_most T.xT (gV 13)) (gV 1) (by rfl))))))))))))))))))))))
end
theorem all_mk {l : PySem.W.OpenLaw} {w : World} {K : PySem.W.Frag} {h : Heap} {mg : Str → Option Value} {fa : Addr} (X : K.In h) (G : h.Ns mainGlobals mg) (hfa : mg "law" = some (.ref fa))
    {f_law_mixed : Addr} {od_law_mixed an_law_mixed : Option Addr} {sl_law_mixed : Array (Option Value)} {oc_law_mixed kV_law_mixed dc_law_mixed pm_law_mixed cd_law_mixed ct_law_mixed : Value}
    {f_law_cell : Addr} {od_law_cell an_law_cell : Option Addr} {sl_law_cell : Array (Option Value)} {oc_law_cell kV_law_cell dc_law_cell pm_law_cell cd_law_cell ct_law_cell : Value}
    {f_law_word : Addr} {od_law_word an_law_word : Option Addr} {sl_law_word : Array (Option Value)} {oc_law_word kV_law_word dc_law_word pm_law_word cd_law_word ct_law_word : Value}
    {f_law_others : Addr} {od_law_others an_law_others : Option Addr} {sl_law_others : Array (Option Value)} {oc_law_others kV_law_others dc_law_others pm_law_others cd_law_others ct_law_others : Value}
    {f_law_refused : Addr} {od_law_refused an_law_refused : Option Addr} {sl_law_refused : Array (Option Value)} {oc_law_refused kV_law_refused dc_law_refused pm_law_refused cd_law_refused ct_law_refused : Value}
    {f_law_due : Addr} {od_law_due an_law_due : Option Addr} {sl_law_due : Array (Option Value)} {oc_law_due kV_law_due dc_law_due pm_law_due cd_law_due ct_law_due : Value}
    {f_number_of : Addr} {od_number_of an_number_of : Option Addr} {sl_number_of : Array (Option Value)} {oc_number_of kV_number_of dc_number_of pm_number_of cd_number_of ct_number_of : Value}
    {f_image_within : Addr} {od_image_within an_image_within : Option Addr} {sl_image_within : Array (Option Value)} {oc_image_within kV_image_within dc_image_within pm_image_within cd_image_within ct_image_within : Value}
    {f_image : Addr} {od_image an_image : Option Addr} {sl_image : Array (Option Value)} {oc_image kV_image dc_image pm_image cd_image ct_image : Value}
    {f_turned : Addr} {od_turned an_turned : Option Addr} {sl_turned : Array (Option Value)} {oc_turned kV_turned dc_turned pm_turned cd_turned ct_turned : Value}
    {f_law_size : Addr} {od_law_size an_law_size : Option Addr} {sl_law_size : Array (Option Value)} {oc_law_size kV_law_size dc_law_size pm_law_size cd_law_size ct_law_size : Value}
    {f_law_many_turns : Addr} {od_law_many_turns an_law_many_turns : Option Addr} {sl_law_many_turns : Array (Option Value)} {oc_law_many_turns kV_law_many_turns dc_law_many_turns pm_law_many_turns cd_law_many_turns ct_law_many_turns : Value}
    {f_behind : Addr} {od_behind an_behind : Option Addr} {sl_behind : Array (Option Value)} {oc_behind kV_behind dc_behind pm_behind cd_behind ct_behind : Value}
    {f_law_told : Addr} {od_law_told an_law_told : Option Addr} {sl_law_told : Array (Option Value)} {oc_law_told kV_law_told dc_law_told pm_law_told cd_law_told ct_law_told : Value}
    {f_law_behind_due : Addr} {od_law_behind_due an_law_behind_due : Option Addr} {sl_law_behind_due : Array (Option Value)} {oc_law_behind_due kV_law_behind_due dc_law_behind_due pm_law_behind_due cd_law_behind_due ct_law_behind_due : Value}
    {f_law : Addr} {od_law an_law : Option Addr} {sl_law : Array (Option Value)} {oc_law kV_law dc_law pm_law cd_law ct_law : Value}
    (a_law_mixed : PySem.W.nsIn K mainGlobals "_law_mixed" = some (some (.ref f_law_mixed)))
    (l_law_mixed : K.lookup f_law_mixed = some ⟨oc_law_mixed, od_law_mixed, .func (PySem.W.fnOf "_law_mixed" "_law_mixed" (defArgs t_law_mixed) (defBody t_law_mixed) (defScope t_law_mixed) .none kV_law_mixed dc_law_mixed pm_law_mixed an_law_mixed cd_law_mixed ct_law_mixed), sl_law_mixed⟩)
    (c_law_mixed : PySem.W.codeIn K cd_law_mixed "_law_mixed" = true)
    (k_law_mixed : PySem.W.keepIn K (.ref f_law_mixed) = true)
    (a_law_cell : PySem.W.nsIn K mainGlobals "_law_cell" = some (some (.ref f_law_cell)))
    (l_law_cell : K.lookup f_law_cell = some ⟨oc_law_cell, od_law_cell, .func (PySem.W.fnOf "_law_cell" "_law_cell" (defArgs t_law_cell) (defBody t_law_cell) (defScope t_law_cell) .none kV_law_cell dc_law_cell pm_law_cell an_law_cell cd_law_cell ct_law_cell), sl_law_cell⟩)
    (c_law_cell : PySem.W.codeIn K cd_law_cell "_law_cell" = true)
    (k_law_cell : PySem.W.keepIn K (.ref f_law_cell) = true)
    (a_law_word : PySem.W.nsIn K mainGlobals "_law_word" = some (some (.ref f_law_word)))
    (l_law_word : K.lookup f_law_word = some ⟨oc_law_word, od_law_word, .func (PySem.W.fnOf "_law_word" "_law_word" (defArgs t_law_word) (defBody t_law_word) (defScope t_law_word) .none kV_law_word dc_law_word pm_law_word an_law_word cd_law_word ct_law_word), sl_law_word⟩)
    (c_law_word : PySem.W.codeIn K cd_law_word "_law_word" = true)
    (k_law_word : PySem.W.keepIn K (.ref f_law_word) = true)
    (a_law_others : PySem.W.nsIn K mainGlobals "_law_others" = some (some (.ref f_law_others)))
    (l_law_others : K.lookup f_law_others = some ⟨oc_law_others, od_law_others, .func (PySem.W.fnOf "_law_others" "_law_others" (defArgs t_law_others) (defBody t_law_others) (defScope t_law_others) .none kV_law_others dc_law_others pm_law_others an_law_others cd_law_others ct_law_others), sl_law_others⟩)
    (c_law_others : PySem.W.codeIn K cd_law_others "_law_others" = true)
    (k_law_others : PySem.W.keepIn K (.ref f_law_others) = true)
    (a_law_refused : PySem.W.nsIn K mainGlobals "_law_refused" = some (some (.ref f_law_refused)))
    (l_law_refused : K.lookup f_law_refused = some ⟨oc_law_refused, od_law_refused, .func (PySem.W.fnOf "_law_refused" "_law_refused" (defArgs t_law_refused) (defBody t_law_refused) (defScope t_law_refused) .none kV_law_refused dc_law_refused pm_law_refused an_law_refused cd_law_refused ct_law_refused), sl_law_refused⟩)
    (c_law_refused : PySem.W.codeIn K cd_law_refused "_law_refused" = true)
    (k_law_refused : PySem.W.keepIn K (.ref f_law_refused) = true)
    (a_law_due : PySem.W.nsIn K mainGlobals "_law_due" = some (some (.ref f_law_due)))
    (l_law_due : K.lookup f_law_due = some ⟨oc_law_due, od_law_due, .func (PySem.W.fnOf "_law_due" "_law_due" (defArgs t_law_due) (defBody t_law_due) (defScope t_law_due) .none kV_law_due dc_law_due pm_law_due an_law_due cd_law_due ct_law_due), sl_law_due⟩)
    (c_law_due : PySem.W.codeIn K cd_law_due "_law_due" = true)
    (k_law_due : PySem.W.keepIn K (.ref f_law_due) = true)
    (a_number_of : PySem.W.nsIn K mainGlobals "number_of" = some (some (.ref f_number_of)))
    (l_number_of : K.lookup f_number_of = some ⟨oc_number_of, od_number_of, .func (PySem.W.fnOf "number_of" "number_of" (defArgs t_number_of) (defBody t_number_of) (defScope t_number_of) .none kV_number_of dc_number_of pm_number_of an_number_of cd_number_of ct_number_of), sl_number_of⟩)
    (c_number_of : PySem.W.codeIn K cd_number_of "number_of" = true)
    (k_number_of : PySem.W.keepIn K (.ref f_number_of) = true)
    (a_image_within : PySem.W.nsIn K mainGlobals "image_within" = some (some (.ref f_image_within)))
    (l_image_within : K.lookup f_image_within = some ⟨oc_image_within, od_image_within, .func (PySem.W.fnOf "image_within" "image_within" (defArgs t_image_within) (defBody t_image_within) (defScope t_image_within) .none kV_image_within dc_image_within pm_image_within an_image_within cd_image_within ct_image_within), sl_image_within⟩)
    (c_image_within : PySem.W.codeIn K cd_image_within "image_within" = true)
    (k_image_within : PySem.W.keepIn K (.ref f_image_within) = true)
    (a_image : PySem.W.nsIn K mainGlobals "image" = some (some (.ref f_image)))
    (l_image : K.lookup f_image = some ⟨oc_image, od_image, .func (PySem.W.fnOf "image" "image" (defArgs t_image) (defBody t_image) (defScope t_image) .none kV_image dc_image pm_image an_image cd_image ct_image), sl_image⟩)
    (c_image : PySem.W.codeIn K cd_image "image" = true)
    (k_image : PySem.W.keepIn K (.ref f_image) = true)
    (a_turned : PySem.W.nsIn K mainGlobals "turned" = some (some (.ref f_turned)))
    (l_turned : K.lookup f_turned = some ⟨oc_turned, od_turned, .func (PySem.W.fnOf "turned" "turned" (defArgs t_turned) (defBody t_turned) (defScope t_turned) .none kV_turned dc_turned pm_turned an_turned cd_turned ct_turned), sl_turned⟩)
    (c_turned : PySem.W.codeIn K cd_turned "turned" = true)
    (k_turned : PySem.W.keepIn K (.ref f_turned) = true)
    (a_law_size : PySem.W.nsIn K mainGlobals "_law_size" = some (some (.ref f_law_size)))
    (l_law_size : K.lookup f_law_size = some ⟨oc_law_size, od_law_size, .func (PySem.W.fnOf "_law_size" "_law_size" (defArgs t_law_size) (defBody t_law_size) (defScope t_law_size) .none kV_law_size dc_law_size pm_law_size an_law_size cd_law_size ct_law_size), sl_law_size⟩)
    (c_law_size : PySem.W.codeIn K cd_law_size "_law_size" = true)
    (k_law_size : PySem.W.keepIn K (.ref f_law_size) = true)
    (a_law_many_turns : PySem.W.nsIn K mainGlobals "_law_many_turns" = some (some (.ref f_law_many_turns)))
    (l_law_many_turns : K.lookup f_law_many_turns = some ⟨oc_law_many_turns, od_law_many_turns, .func (PySem.W.fnOf "_law_many_turns" "_law_many_turns" (defArgs t_law_many_turns) (defBody t_law_many_turns) (defScope t_law_many_turns) .none kV_law_many_turns dc_law_many_turns pm_law_many_turns an_law_many_turns cd_law_many_turns ct_law_many_turns), sl_law_many_turns⟩)
    (c_law_many_turns : PySem.W.codeIn K cd_law_many_turns "_law_many_turns" = true)
    (k_law_many_turns : PySem.W.keepIn K (.ref f_law_many_turns) = true)
    (a_behind : PySem.W.nsIn K mainGlobals "behind" = some (some (.ref f_behind)))
    (l_behind : K.lookup f_behind = some ⟨oc_behind, od_behind, .func (PySem.W.fnOf "behind" "behind" (defArgs t_behind) (defBody t_behind) (defScope t_behind) .none kV_behind dc_behind pm_behind an_behind cd_behind ct_behind), sl_behind⟩)
    (c_behind : PySem.W.codeIn K cd_behind "behind" = true)
    (k_behind : PySem.W.keepIn K (.ref f_behind) = true)
    (a_law_told : PySem.W.nsIn K mainGlobals "_law_told" = some (some (.ref f_law_told)))
    (l_law_told : K.lookup f_law_told = some ⟨oc_law_told, od_law_told, .func (PySem.W.fnOf "_law_told" "_law_told" (defArgs t_law_told) (defBody t_law_told) (defScope t_law_told) .none kV_law_told dc_law_told pm_law_told an_law_told cd_law_told ct_law_told), sl_law_told⟩)
    (c_law_told : PySem.W.codeIn K cd_law_told "_law_told" = true)
    (k_law_told : PySem.W.keepIn K (.ref f_law_told) = true)
    (a_law_behind_due : PySem.W.nsIn K mainGlobals "_law_behind_due" = some (some (.ref f_law_behind_due)))
    (l_law_behind_due : K.lookup f_law_behind_due = some ⟨oc_law_behind_due, od_law_behind_due, .func (PySem.W.fnOf "_law_behind_due" "_law_behind_due" (defArgs t_law_behind_due) (defBody t_law_behind_due) (defScope t_law_behind_due) .none kV_law_behind_due dc_law_behind_due pm_law_behind_due an_law_behind_due cd_law_behind_due ct_law_behind_due), sl_law_behind_due⟩)
    (c_law_behind_due : PySem.W.codeIn K cd_law_behind_due "_law_behind_due" = true)
    (k_law_behind_due : PySem.W.keepIn K (.ref f_law_behind_due) = true)
    (a_law : PySem.W.nsIn K mainGlobals "law" = some (some (.ref f_law)))
    (l_law : K.lookup f_law = some ⟨oc_law, od_law, .func (PySem.W.fnOf "law" "law" (defArgs t_law) (defBody t_law) (defScope t_law) .none kV_law dc_law pm_law an_law cd_law ct_law), sl_law⟩)
    (c_law : PySem.W.codeIn K cd_law "law" = true)
    (k_law : PySem.W.keepIn K (.ref f_law) = true)
    {x_0 x_1 x_2 x_3 x_4 x_5 x_6 x_7 f_ti T_ti : Addr}
    (ax_0 : PySem.W.nsIn K mainGlobals "WordError" = some (some (.ref x_0)))
    (ax_1 : PySem.W.nsIn K mainGlobals "NoRule" = some (some (.ref x_1)))
    (ax_2 : PySem.W.nsIn K mainGlobals "NoStart" = some (some (.ref x_2)))
    (ax_3 : PySem.W.nsIn K mainGlobals "NoPiece" = some (some (.ref x_3)))
    (ax_4 : PySem.W.nsIn K mainGlobals "NotMixed" = some (some (.ref x_4)))
    (ax_5 : PySem.W.nsIn K mainGlobals "NoShares" = some (some (.ref x_5)))
    (ax_6 : PySem.W.nsIn K mainGlobals "NoRow" = some (some (.ref x_6)))
    (ax_7 : PySem.W.nsIn K mainGlobals "TooGreat" = some (some (.ref x_7)))
    (e1_7 : PySem.W.findIn K (.ref x_7) "__getattribute__" = some (some (.builtin "BaseException.__getattribute__")))
    (e2_7 : PySem.W.findIn K (.ref x_7) "__getattr__" = some none)
    (e3_7 : PySem.W.subIn K (.ref x_7) (.type "BaseException") = some true)
    (e4_7 : PySem.W.hasDictIn K x_7 = true)
    (e5_7 : PySem.W.findIn K (.ref x_7) "__class__" = some (some (.builtin "object.__class__")))
    (e8_7 : PySem.W.mroIn K x_7 (.type "object") = some true)
    (e9_7 : PySem.W.exmOne K (.ref x_7) (.ref x_0) = some true)
    (en_7 : PySem.W.findIn K (.ref x_7) "most" = some none)
    (ek_7_1 : PySem.W.kitOne K (.ref x_7) (.ref x_1) = some (subX 7 1))
    (ek_7_2 : PySem.W.kitOne K (.ref x_7) (.ref x_2) = some (subX 7 2))
    (ek_7_3 : PySem.W.kitOne K (.ref x_7) (.ref x_3) = some (subX 7 3))
    (ek_7_4 : PySem.W.kitOne K (.ref x_7) (.ref x_4) = some (subX 7 4))
    (ek_7_5 : PySem.W.kitOne K (.ref x_7) (.ref x_5) = some (subX 7 5))
    (ek_7_6 : PySem.W.kitOne K (.ref x_7) (.ref x_6) = some (subX 7 6))
    (ek_7_7 : PySem.W.kitOne K (.ref x_7) (.ref x_7) = some (subX 7 7))
    (ek_7_8 : PySem.W.kitOne K (.ref x_7) (.type "ValueError") = some (subX 7 8))
    (e6 : PySem.W.specialIn K (.builtin "object.__class__") "__get__" = some (some (.builtin "getset_descriptor.__get__")))
    (e7 : PySem.W.takesIn K (.builtin "object.__class__") = some true)
    {nm_x q_x : Str} {N_x : Addr} {bs_x : List Value} {sn_x : List Str} {sub_x : List Value} {ab_x : Bool} {col_x : Option Bool} {dd_x : Option Addr} {m0_x m1_x m2_x m3_x m5_x : Option Value}
    (t1 : K.lookup x_7 = some (excClassObj nm_x q_x x_7 N_x bs_x [.ref x_0, .type "ValueError", .type "Exception", .type "BaseException", .type "object"] true sn_x sub_x ab_x col_x dd_x m0_x m1_x m2_x m3_x m5_x "ValueError.__new__"))
    (t2 : PySem.W.findIn K (.ref x_7) "__setattr__" = some (some (.builtin "object.__setattr__")))
    (t3 : PySem.W.subIn K (.ref x_7) (.type "BaseException") = some true)
    (t4 : PySem.W.typeIn K (.ref x_7) = some (.type "type"))
    (t5 : PySem.W.keepIn K (.ref x_7) = true)
    (t6 : PySem.W.findIn K (.ref x_7) "__init__" = some (some (.ref f_ti)))
    (t7 : PySem.W.typeIn K (.ref f_ti) = some (.type "function"))
    (t8 : PySem.W.findIn K (.ref x_7) "most" = some none)
    (t9 : PySem.W.specialIn K (.ref x_0) "__getattribute__" = some (some (.builtin "type.__getattribute__")))
    (t10 : PySem.W.readsIn K x_0 (.type "type") = true)
    (t11 : PySem.W.findCls K (.ref x_0) (.type "type") "__init__" = some (.val (.builtin "ValueError.__init__")))
    {od_ti an_ti od_tt : Option Addr} {sl_ti sl_tt : Array (Option Value)} {oc_ti oc_tt kV_ti dc_ti pm_ti cd_ti ct_ti : Value} {n_tt : Nat}
    (t12 : K.lookup f_ti = some ⟨oc_ti, od_ti, .func (PySem.W.fnOf "__init__" "TooGreat.__init__" (defArgs t_tginit) (defBody t_tginit) (defScope t_tginit) (.ref T_ti) kV_ti dc_ti pm_ti an_ti cd_ti ct_ti), sl_ti⟩)
    (t13 : PySem.W.codeIn K cd_ti "TooGreat.__init__" = true)
    (t14 : PySem.W.keepIn K (.ref f_ti) = true)
    (t15 : K.lookup T_ti = some ⟨oc_tt, od_tt, .seq #[.none] n_tt, sl_tt⟩)
    (z_ValueError : PySem.W.nsIn K mainGlobals "ValueError" = some none)
    (z_bool : PySem.W.nsIn K mainGlobals "bool" = some none)
    (z_int : PySem.W.nsIn K mainGlobals "int" = some none)
    (z_isinstance : PySem.W.nsIn K mainGlobals "isinstance" = some none)
    (z_len : PySem.W.nsIn K mainGlobals "len" = some none)
    (z_max : PySem.W.nsIn K mainGlobals "max" = some none)
    (z_min : PySem.W.nsIn K mainGlobals "min" = some none)
    (z_range : PySem.W.nsIn K mainGlobals "range" = some none)
    (z_str : PySem.W.nsIn K mainGlobals "str" = some none)
    (z_sum : PySem.W.nsIn K mainGlobals "sum" = some none)
    (z_tuple : PySem.W.nsIn K mainGlobals "tuple" = some none)
    {u_LETTERS : Tok} (w_LETTERS : PySem.W.nsIn K mainGlobals "LETTERS" = some (some (.str "abcd" u_LETTERS)))
    {u_MOST_IMAGE : Tok} (w_MOST_IMAGE : PySem.W.nsIn K mainGlobals "MOST_IMAGE" = some (some (.int 20000 u_MOST_IMAGE)))
    {u_MOST_WORD : Tok} (w_MOST_WORD : PySem.W.nsIn K mainGlobals "MOST_WORD" = some (some (.int 100 u_MOST_WORD))) :
    ∃ fd : FuncData, (∀ (s : Shared) (v : Value), BindsTo s fd ⟨[v], []⟩ [("_law_script", v)]) ∧ ∀ base : Heap, K.In base → base.Ns mainGlobals mg → FnOk l.prog w K mg base (L2.CX l.prog w) 8 fa fd ["_law_script"] (spX K [7] 1 s_law) := by
  have e := hfa.symm.trans (PySem.W.mg_of X G a_law)
  cases e
  have F_law_mixed := fun_mk (st := t_law_mixed) l_law_mixed c_law_mixed k_law_mixed
  have b_law_mixed := F_law_mixed.binds (ps := ["_law_cell_here", "_law_k"]) fun _ _ _ _ _ _ us hl => match us, hl with | [_, _], _ => rfl
  have F_law_cell := fun_mk (st := t_law_cell) l_law_cell c_law_cell k_law_cell
  have b_law_cell := F_law_cell.binds (ps := ["_law_script", "_law_k"]) fun _ _ _ _ _ _ us hl => match us, hl with | [_, _], _ => rfl
  have F_law_word := fun_mk (st := t_law_word) l_law_word c_law_word k_law_word
  have b_law_word := F_law_word.binds (ps := ["_law_number", "_law_many", "_law_size_here"]) fun _ _ _ _ _ _ us hl => match us, hl with | [_, _, _], _ => rfl
  have F_law_others := fun_mk (st := t_law_others) l_law_others c_law_others k_law_others
  have b_law_others := F_law_others.binds (ps := ["_law_error"]) fun _ _ _ _ _ _ us hl => match us, hl with | [_], _ => rfl
  have F_law_refused := fun_mk (st := t_law_refused) l_law_refused c_law_refused k_law_refused
  have b_law_refused := F_law_refused.binds (ps := ["_law_kept", "_law_bound"]) fun _ _ _ _ _ _ us hl => match us, hl with | [_, _], _ => rfl
  have F_law_due := fun_mk (st := t_law_due) l_law_due c_law_due k_law_due
  have b_law_due := F_law_due.binds (ps := ["_law_told_here", "_law_size_here", "_law_bound"]) fun _ _ _ _ _ _ us hl => match us, hl with | [_, _, _], _ => rfl
  have F_number_of := fun_mk (st := t_number_of) l_number_of c_number_of k_number_of
  have b_number_of := F_number_of.binds (ps := ["letter"]) fun _ _ _ _ _ _ us hl => match us, hl with | [_], _ => rfl
  have F_image_within := fun_mk (st := t_image_within) l_image_within c_image_within k_image_within
  have b_image_within := F_image_within.binds (ps := ["rule", "word", "most"]) fun _ _ _ _ _ _ us hl => match us, hl with | [_, _, _], _ => rfl
  have F_image := fun_mk (st := t_image) l_image c_image k_image
  have b_image := F_image.binds (ps := ["rule", "word"]) fun _ _ _ _ _ _ us hl => match us, hl with | [_, _], _ => rfl
  have F_turned := fun_mk (st := t_turned) l_turned c_turned k_turned
  have b_turned := F_turned.binds (ps := ["rule", "word", "times"]) fun _ _ _ _ _ _ us hl => match us, hl with | [_, _, _], _ => rfl
  have F_law_size := fun_mk (st := t_law_size) l_law_size c_law_size k_law_size
  have b_law_size := F_law_size.binds (ps := ["_law_rule", "_law_sizes_now", "_law_word_here"]) fun _ _ _ _ _ _ us hl => match us, hl with | [_, _, _], _ => rfl
  have F_law_many_turns := fun_mk (st := t_law_many_turns) l_law_many_turns c_law_many_turns k_law_many_turns
  have b_law_many_turns := F_law_many_turns.binds (ps := ["_law_script"]) fun _ _ _ _ _ _ us hl => match us, hl with | [_], _ => rfl
  have F_behind := fun_mk (st := t_behind) l_behind c_behind k_behind
  have b_behind := F_behind.binds (ps := ["first", "later"]) fun _ _ _ _ _ _ us hl => match us, hl with | [_, _], _ => rfl
  have F_law_told := fun_mk (st := t_law_told) l_law_told c_law_told k_law_told
  have b_law_told := F_law_told.binds (ps := ["_law_way", "_law_rule", "_law_word_here", "_law_later"]) fun _ _ _ _ _ _ us hl => match us, hl with | [_, _, _, _], _ => rfl
  have F_law_behind_due := fun_mk (st := t_law_behind_due) l_law_behind_due c_law_behind_due k_law_behind_due
  have b_law_behind_due := F_law_behind_due.binds (ps := ["_law_first", "_law_later"]) fun _ _ _ _ _ _ us hl => match us, hl with | [_, _], _ => rfl
  have F_law := fun_mk (st := t_law) l_law c_law k_law
  have b_law := F_law.binds (ps := ["_law_script"]) fun _ _ _ _ _ _ us hl => match us, hl with | [_], _ => rfl
  have x_f : ∃ xA : Nat → Addr, xA 0 = x_0 ∧ xA 1 = x_1 ∧ xA 2 = x_2 ∧ xA 3 = x_3 ∧ xA 4 = x_4 ∧ xA 5 = x_5 ∧ xA 6 = x_6 ∧ xA 7 = x_7 := ⟨fun n => match n with | 0 => x_0 | 1 => x_1 | 2 => x_2 | 3 => x_3 | 4 => x_4 | 5 => x_5 | 6 => x_6 | _ => x_7, rfl, rfl, rfl, rfl, rfl, rfl, rfl, rfl⟩
  obtain ⟨xA, rfl, rfl, rfl, rfl, rfl, rfl, rfl, rfl⟩ := x_f
  have x_T : XT K mg [7] [1, 2, 3, 4, 5, 6, 7, 8] xA := ⟨fun k hk => by simp only [List.mem_cons, List.not_mem_nil, or_false] at hk; rcases hk with rfl; all_goals first | exact ax_7, fun k hk => by simp only [List.mem_cons, List.not_mem_nil, or_false] at hk; rcases hk with rfl; all_goals first | exact ⟨e1_7, e2_7, e3_7, e4_7, e5_7, e6, e7, e8_7⟩, fun k hk => by simp only [List.mem_cons, List.not_mem_nil, or_false] at hk; rcases hk with rfl; all_goals first | exact e9_7, fun k hk n hn => by simp only [List.mem_cons, List.not_mem_nil, or_false] at hk hn; rcases hk with rfl <;> rcases hn with rfl | rfl | rfl | rfl | rfl | rfl | rfl | rfl <;> first | exact ek_7_1 | exact ek_7_2 | exact ek_7_3 | exact ek_7_4 | exact ek_7_5 | exact ek_7_6 | exact ek_7_7 | exact ek_7_8, fun k hk => by simp only [List.mem_cons, List.not_mem_nil, or_false] at hk; rcases hk with rfl; all_goals first | exact en_7⟩
  have F_ti : FunD K "__init__" "TooGreat.__init__" (defArgs t_tginit) (defBody t_tginit) (defScope t_tginit) [.non] [] f_ti _ := ⟨⟨_, _, _, _, _, _, _, _, _, _, rfl, t12, t13, .inr ⟨by simp, T_ti, _, [.none], _, rfl, t15, rfl, .cons rfl .nil⟩, .inl rfl⟩, t14⟩
  have b_ti := init_binds F_ti fun _ _ _ _ _ _ _ us its h1 h2 => match us, its, h1, h2 with | [_, _], [_], _, _ => ⟨_, rfl, rfl⟩
  have b0_ti := init_binds0 F_ti fun _ _ _ _ _ _ _ us its h1 h2 => match us, its, h1, h2 with | [_], [_], _, _ => ⟨_, rfl, rfl⟩
  have bk_ti := init_kbinds F_ti fun _ _ _ _ _ _ _ us its ws h1 h2 h3 => match us, its, ws, h1, h2, h3 with | [_], [_], [_], _, _, _ => ⟨_, rfl, rfl⟩
  have x_g : TGT K mg (xA 7) (xA 0) f_ti := ⟨⟨⟨_, _, _, _, _, _, _, _, _, _, _, _, _, _, _, t1, by rfl⟩, t2, t3, t4, t5⟩, t6, t7, PySem.W.mg_of X G ax_7, PySem.W.mg_of X G ax_0, ax_7, t8, t9, t10, t11⟩
  exact ⟨_, fun s v => .of_eq rfl, fun base _ _ => ok_law (⟨xA, x_T, PySem.W.mg_of X G ax_0, PySem.W.mg_of X G ax_1, PySem.W.mg_of X G ax_2, PySem.W.mg_of X G ax_3, PySem.W.mg_of X G ax_4, PySem.W.mg_of X G ax_5, PySem.W.mg_of X G ax_6, PySem.W.mg_of X G ax_7, f_ti, _, x_g, F_ti, b_ti, b0_ti, bk_ti,
    _, _, F_law_mixed, b_law_mixed, PySem.W.mg_of X G a_law_mixed,
    _, _, F_law_cell, b_law_cell, PySem.W.mg_of X G a_law_cell,
    _, _, F_law_word, b_law_word, PySem.W.mg_of X G a_law_word,
    _, _, F_law_others, b_law_others, PySem.W.mg_of X G a_law_others,
    _, _, F_law_refused, b_law_refused, PySem.W.mg_of X G a_law_refused,
    _, _, F_law_due, b_law_due, PySem.W.mg_of X G a_law_due,
    _, _, F_number_of, b_number_of, PySem.W.mg_of X G a_number_of,
    _, _, F_image_within, b_image_within, PySem.W.mg_of X G a_image_within,
    _, _, F_image, b_image, PySem.W.mg_of X G a_image,
    _, _, F_turned, b_turned, PySem.W.mg_of X G a_turned,
    _, _, F_law_size, b_law_size, PySem.W.mg_of X G a_law_size,
    _, _, F_law_many_turns, b_law_many_turns, PySem.W.mg_of X G a_law_many_turns,
    _, _, F_behind, b_behind, PySem.W.mg_of X G a_behind,
    _, _, F_law_told, b_law_told, PySem.W.mg_of X G a_law_told,
    _, _, F_law_behind_due, b_law_behind_due, PySem.W.mg_of X G a_law_behind_due,
    _, _, F_law, b_law, PySem.W.mg_of X G a_law,
    PySem.W.mg_none_of X G z_ValueError,
    PySem.W.mg_none_of X G z_bool,
    PySem.W.mg_none_of X G z_int,
    PySem.W.mg_none_of X G z_isinstance,
    PySem.W.mg_none_of X G z_len,
    PySem.W.mg_none_of X G z_max,
    PySem.W.mg_none_of X G z_min,
    PySem.W.mg_none_of X G z_range,
    PySem.W.mg_none_of X G z_str,
    PySem.W.mg_none_of X G z_sum,
    PySem.W.mg_none_of X G z_tuple,
    ⟨_, PySem.W.mg_of X G w_LETTERS, ⟨_, rfl⟩⟩,
    ⟨_, PySem.W.mg_of X G w_MOST_IMAGE, ⟨_, rfl⟩⟩,
    ⟨_, PySem.W.mg_of X G w_MOST_WORD, ⟨_, rfl⟩⟩⟩ : Tab K mg)⟩
end NV.K06

open PySem PySem.W PyProof.Rows
set_option maxHeartbeats 0 in
theorem PySem.Challenge.cw_neveragain_k06_images_refused_holds : PySem.Challenge.rw_neveragain_k06_images_refused.Holds := by
  w_on; o_law; k_head; (case hw => w_witness2)
  k_fill
  refine L2.walk_of (l := PySem.Challenge.rw_neveragain_k06_images_refused) (n := 63) (k := 8) (x := "_law_script") (CX := fun w => L2.CX PySem.Challenge.rw_neveragain_k06_images_refused.prog w) (sp := fun w => NV.spX _ [7] 1 NV.K06.s_law) rfl (by decide) rfl ⟨rfl, by decide, by decide⟩ (fun w h Y => PySem.W.kIn_of Y) ?F (fun _ _ a ns hl _ hS => by obtain ⟨as, h⟩ := NV.K06.law_holds ns hl; exact NV.law_spX hS h) (fun _ _ _ _ _ h => by obtain ⟨_, _, _, _, _, _, _, _, _, _, _, _, z⟩ := h; exact z)
  case F =>
    intro w mg fa h KX G hmg
    refine' NV.K06.all_mk KX G hmg ?a_law_mixed ?l_law_mixed ?c_law_mixed ?k_law_mixed ?a_law_cell ?l_law_cell ?c_law_cell ?k_law_cell ?a_law_word ?l_law_word ?c_law_word ?k_law_word ?a_law_others ?l_law_others ?c_law_others ?k_law_others ?a_law_refused ?l_law_refused ?c_law_refused ?k_law_refused ?a_law_due ?l_law_due ?c_law_due ?k_law_due ?a_number_of ?l_number_of ?c_number_of ?k_number_of ?a_image_within ?l_image_within ?c_image_within ?k_image_within ?a_image ?l_image ?c_image ?k_image ?a_turned ?l_turned ?c_turned ?k_turned ?a_law_size ?l_law_size ?c_law_size ?k_law_size ?a_law_many_turns ?l_law_many_turns ?c_law_many_turns ?k_law_many_turns ?a_behind ?l_behind ?c_behind ?k_behind ?a_law_told ?l_law_told ?c_law_told ?k_law_told ?a_law_behind_due ?l_law_behind_due ?c_law_behind_due ?k_law_behind_due ?a_law ?l_law ?c_law ?k_law ?ax_0 ?ax_1 ?ax_2 ?ax_3 ?ax_4 ?ax_5 ?ax_6 ?ax_7 ?e1_7 ?e2_7 ?e3_7 ?e4_7 ?e5_7 ?e8_7 ?e9_7 ?en_7 ?ek_7_1 ?ek_7_2 ?ek_7_3 ?ek_7_4 ?ek_7_5 ?ek_7_6 ?ek_7_7 ?ek_7_8 ?e6 ?e7 ?t1 ?t2 ?t3 ?t4 ?t5 ?t6 ?t7 ?t8 ?t9 ?t10 ?t11 ?t12 ?t13 ?t14 ?t15 ?z_ValueError ?z_bool ?z_int ?z_isinstance ?z_len ?z_max ?z_min ?z_range ?z_str ?z_sum ?z_tuple ?w_LETTERS ?w_63_IMAGE ?w_63_WORD
    (case a_law_mixed => k_is); (case l_law_mixed => k_is); (case c_law_mixed => k_is); (case k_law_mixed => k_is); (case a_law_cell => k_is); (case l_law_cell => k_is); (case c_law_cell => k_is); (case k_law_cell => k_is); (case a_law_word => k_is); (case l_law_word => k_is); (case c_law_word => k_is); (case k_law_word => k_is); (case a_law_others => k_is); (case l_law_others => k_is); (case c_law_others => k_is); (case k_law_others => k_is); (case a_law_refused => k_is); (case l_law_refused => k_is); (case c_law_refused => k_is); (case k_law_refused => k_is); (case a_law_due => k_is); (case l_law_due => k_is); (case c_law_due => k_is); (case k_law_due => k_is); (case a_number_of => k_is); (case l_number_of => k_is); (case c_number_of => k_is); (case k_number_of => k_is); (case a_image_within => k_is); (case l_image_within => k_is); (case c_image_within => k_is); (case k_image_within => k_is); (case a_image => k_is); (case l_image => k_is); (case c_image => k_is); (case k_image => k_is); (case a_turned => k_is); (case l_turned => k_is); (case c_turned => k_is); (case k_turned => k_is); (case a_law_size => k_is); (case l_law_size => k_is); (case c_law_size => k_is); (case k_law_size => k_is); (case a_law_many_turns => k_is); (case l_law_many_turns => k_is); (case c_law_many_turns => k_is); (case k_law_many_turns => k_is); (case a_behind => k_is); (case l_behind => k_is); (case c_behind => k_is); (case k_behind => k_is); (case a_law_told => k_is); (case l_law_told => k_is); (case c_law_told => k_is); (case k_law_told => k_is); (case a_law_behind_due => k_is); (case l_law_behind_due => k_is); (case c_law_behind_due => k_is); (case k_law_behind_due => k_is); (case a_law => k_is); (case l_law => k_is); (case c_law => k_is); (case k_law => k_is); (case ax_0 => k_is); (case ax_1 => k_is); (case ax_2 => k_is); (case ax_3 => k_is); (case ax_4 => k_is); (case ax_5 => k_is); (case ax_6 => k_is); (case ax_7 => k_is); (case e1_7 => k_is); (case e2_7 => k_is); (case e3_7 => first | k_is | rfl); (case e4_7 => first | k_is | rfl); (case e5_7 => k_is); (case e8_7 => k_is); (case e9_7 => first | k_is | rfl); (case en_7 => k_is); (case ek_7_1 => first | k_is | rfl); (case ek_7_2 => first | k_is | rfl); (case ek_7_3 => first | k_is | rfl); (case ek_7_4 => first | k_is | rfl); (case ek_7_5 => first | k_is | rfl); (case ek_7_6 => first | k_is | rfl); (case ek_7_7 => first | k_is | rfl); (case ek_7_8 => first | k_is | rfl); (case e6 => k_is); (case e7 => k_is); (case t1 => first | k_is | rfl); (case t2 => k_is); (case t3 => first | k_is | rfl); (case t4 => k_is); (case t5 => k_is); (case t6 => k_is); (case t7 => k_is); (case t8 => k_is); (case t9 => k_is); (case t10 => first | k_is | rfl); (case t11 => first | k_is | rfl); (case t12 => first | k_is | rfl); (case t13 => first | k_is | rfl); (case t14 => first | k_is | rfl); (case t15 => first | k_is | rfl); (case z_ValueError => k_is); (case z_bool => k_is); (case z_int => k_is); (case z_isinstance => k_is); (case z_len => k_is); (case z_max => k_is); (case z_min => k_is); (case z_range => k_is); (case z_str => k_is); (case z_sum => k_is); (case z_tuple => k_is); (case w_LETTERS => k_is); (case w_63_IMAGE => k_is); (case w_63_WORD => k_is)

